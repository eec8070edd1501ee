import PyProof.Rows.All
import Wide.All
import OpenK.AllK
import Wide.FinOn
import HandS.ForMost
import HandS.Walk
import HandS.TupAny
import HandS.IsInst
import HandS.Deep
import HandS.Zip
import KE.KDictKeyed
import HandS.Exc
import HandS.ExcInit
import HandS.TryMany
import HandS.ExcIs
import HandS.WordsExc
import KE.DataCmp
import HandS.Style
import HandS.NoneIn
import HandS.Conv
import KE.GoesMore
import KE.KDictWalk
import HandS.TupMul
import HandS.Star
import KE.SortCalls
import KE.DataMinMax
import KE.KDictList
import HandS.FStr
import KE.KDictDisplayH
import HandS.TryOnly
import PySem.Challenge.RW_stephouse_k49_whole_fewest_faults
set_option Elab.async false
set_option linter.all false
set_option maxRecDepth 100000
set_option maxHeartbeats 4000000
namespace RI
open PySem PySem.Spec PyProof.Rows L2

/-! ### data -/
inductive D where
  | non | bl (b : Bool) | int (i : Int) | str (s : List Nat) | tup (l : List D) | lst (l : List D) | obj (i : Nat)
  /-- the exception that is handled: its class, its fields -/
  | exn (c : Str) (ns : List Str) (ds : List D)
  /-- an instance that does not change: its class, its fields -/
  | ins (c : Str) (ns : List Str) (ds : List D)
  deriving Inhabited
/-- dct: a dict whose keys are tuples; dks: one whose keys are numbers and texts (lk: it is walked, and never written again); ins: an instance -/
inductive MO where
  | lst (l : List D)
  | dct (lk : Bool) (l : List (D × D))
  | dks (lk : Bool) (l : List (D × D))
  | ins (c : Str) (fs : List (Str × D))
abbrev Mem := List MO
/-- an exception: its class, its fields -/
structure Ex where
  cls : Str
  fs : List (Str × D)
inductive Res (A : Type) where
  | ok (a : A) (M : Mem)
  | exc (x : Ex) (M : Mem)
  | bad
def Res.bind {A B : Type} (r : Res A) (f : A → Mem → Res B) : Res B := match r with
  | .ok a M => f a M
  | .exc x M => .exc x M
  | .bad => .bad
/-- what raises nothing -/
def Res.noX {A : Type} : Res A → Res A
  | .ok a M => .ok a M
  | _ => .bad
@[simp] theorem Res.noX_ok {A : Type} (a : A) (M : Mem) : (Res.ok a M).noX = .ok a M := rfl
@[simp] theorem Res.noX_bad {A : Type} : (Res.bad : Res A).noX = .bad := rfl
@[simp] theorem Res.bind_exc {A B : Type} (x : Ex) (M : Mem) (f : A → Mem → Res B) : (Res.exc x M).bind f = .exc x M := rfl
@[simp] theorem Res.bind_ok {A B : Type} (a : A) (M : Mem) (f : A → Mem → Res B) : (Res.ok a M).bind f = f a M := rfl
@[simp] theorem Res.bind_bad {A B : Type} (f : A → Mem → Res B) : (Res.bad : Res A).bind f = .bad := rfl

mutual
def D.bel (n : Nat) : D → Bool
  | .obj i => decide (i < n)
  | .exn _ _ _ => false
  | .ins _ _ l => D.bels n l
  | .tup l => D.bels n l
  | .lst l => D.bels n l
  | _ => true
def D.bels (n : Nat) : List D → Bool
  | [] => true
  | d :: ds => D.bel n d && D.bels n ds
end
/-! objects taken out, by g -/
mutual
def D.frz (g : Nat → D) : D → D
  | .obj i => g i
  | .exn c ns ds => .exn c ns ds
  | .ins c ns ds => .ins c ns (D.frzs g ds)
  | .tup l => .tup (D.frzs g l)
  | .lst l => .lst (D.frzs g l)
  | .non => .non
  | .bl b => .bl b
  | .int i => .int i
  | .str s => .str s
def D.frzs (g : Nat → D) : List D → List D
  | [] => []
  | d :: ds => D.frz g d :: D.frzs g ds
end
def frzM (M : Mem) (mark : Nat) : Nat → Nat → D
  | 0, i => .obj i
  | n + 1, i => if i < mark then .obj i else match M[i]? with
    | some (.lst l) => .lst (D.frzs (frzM M mark n) l)
    | some (.ins c fs) => .ins c (fs.map (·.1)) (D.frzs (frzM M mark n) (fs.map (·.2)))
    | _ => .obj i

/-! ### keys -/
mutual
def D.toK : D → NestedKey
  | .non => .none
  | .bl b => .num (if b = true then 1 else 0)
  | .int i => .num i
  | .str s => .text ⟨s.toArray⟩
  | .tup l => .tup (D.toKs l)
  | .lst _ => .none
  | .obj _ => .none
  | .exn _ _ _ => .none
  | .ins _ _ _ => .none
def D.toKs : List D → List NestedKey
  | [] => []
  | d :: ds => D.toK d :: D.toKs ds
end
mutual
/-- made of numbers, bools, texts, None and tuples alone -/
def D.keyly : D → Bool
  | .tup l => D.keylys l
  | .lst _ => false
  | .obj _ => false
  | .exn _ _ _ => false
  | .ins _ _ _ => false
  | _ => true
def D.keylys : List D → Bool
  | [] => true
  | d :: ds => D.keyly d && D.keylys ds
end
/-- a tuple that may be a key -/
def D.isKey : D → Bool
  | .tup l => D.keylys l && Nat.ble (NestedKey.depthAll (D.toKs l)) 7
  | _ => false

/-! ### where things stand -/
structure Kb where
  K : PySem.W.Frag
  P : Program
  w : World
  mg : Str → Option Value
  hx : Option (Addr × Value × Option Addr)
/-- l: the mutable objects; p: lists that are being made (a comprehension's), known to nobody; k: those of l that are never written again -/
structure Mu where
  l : List Addr
  p : List Addr
  k : List Addr
structure Wd where
  H : Hp
  mu : Mu
/-- neither mutable nor private -/
def Fz (W : Wd) (a : Addr) : Prop := (a ∉ W.mu.l ∨ a ∈ W.mu.k) ∧ a ∉ W.mu.p
def KTp (K : PySem.W.Frag) (a : Addr) (xs : List V) : Prop :=
  ∃ (o : Obj) (its : Array Value) (n : Nat), K.lookup a = some o ∧ o.cls = .type "tuple" ∧ o.data = .seq its n ∧ its.size ≤ sizeLine ∧ Vals xs its.toList
def KLs (K : PySem.W.Frag) (a : Addr) (xs : List V) : Prop :=
  ∃ (o : Obj) (its : Array Value) (n : Nat), K.lookup a = some o ∧ o.cls = .type "list" ∧ o.dict = none ∧ o.data = .seq its n ∧ its.size ≤ sizeLine ∧ Vals xs its.toList
def LstAt (K : Kb) (W : Wd) (a : Addr) (xs : List V) : Prop := (Rd W.H a (.lst xs) ∧ Fz W a) ∨ KLs K.K a xs
def TupAt (K : Kb) (W : Wd) (a : Addr) (xs : List V) : Prop := (Rd W.H a (.tup xs) ∧ Fz W a) ∨ KTp K.K a xs
theorem LstAt.sq {K : Kb} {W : Wd} {a : Addr} {xs : List V} (h : LstAt K W a xs) : SqL K.K W.H a xs := by
  rcases h with h | h
  · exact .inl h.1
  · exact .inr h
theorem TupAt.sq {K : Kb} {W : Wd} {a : Addr} {xs : List V} (h : TupAt K W a xs) : SqT K.K W.H a xs := by
  rcases h with h | h
  · exact .inl h.1
  · exact .inr h
mutual
def DRel (K : Kb) (W : Wd) : D → V → Prop
  | .non, v => v = .non
  | .bl b, v => v = .bl b
  | .int i, v => v = .int i
  | .str s, v => v = .str ⟨s.toArray⟩
  | .tup l, v => ∃ a xs, v = .ref a ∧ TupAt K W a xs ∧ DRels K W l xs
  | .lst l, v => ∃ a xs, v = .ref a ∧ LstAt K W a xs ∧ DRels K W l xs
  | .obj i, v => ∃ a, v = .ref a ∧ W.mu.l[i]? = some a
  | .exn c ns ds, v => ∃ a cls od, K.hx = some (a, cls, od) ∧ v = .ref a ∧ K.mg c = some cls ∧ ((od = none ∧ ds = []) ∨ ∃ dx xs, od = some dx ∧ Fz W dx ∧ W.H dx = some (.xd (ns.zip xs)) ∧ ns.length = ds.length ∧ DRels K W ds xs)
  | .ins c ns ds, v => ∃ a C dx xs, v = .ref a ∧ K.mg c = some (.ref C) ∧ W.H a = some (.ins C dx (ns.zip xs)) ∧ Fz W a ∧ W.H dx = some (.own a) ∧ Fz W dx ∧ ns.length = ds.length ∧ DRels K W ds xs
def DRels (K : Kb) (W : Wd) : List D → List V → Prop
  | [], vs => vs = []
  | d :: ds, vs => ∃ v r, vs = v :: r ∧ DRel K W d v ∧ DRels K W ds r
end
/-- what is known of data stays -/
structure Lk (W W' : Wd) : Prop where
  pre : ∃ t, W'.mu.l = W.mu.l ++ t
  keep : ∀ a o, W.H a = some o → Fz W a → W'.H a = some o ∧ Fz W' a
theorem Lk.refl (W : Wd) : Lk W W := ⟨⟨[], by simp⟩, fun _ _ h n => ⟨h, n⟩⟩
theorem Lk.trans {W W1 W2 : Wd} (a : Lk W W1) (b : Lk W1 W2) : Lk W W2 := by
  obtain ⟨t, e⟩ := a.pre
  obtain ⟨t', e'⟩ := b.pre
  exact ⟨⟨t ++ t', by rw [e', e, List.append_assoc]⟩, fun x o h n => let ⟨h1, n1⟩ := a.keep x o h n; b.keep x o h1 n1⟩
/-- what stands later -/
structure Le (W W' : Wd) : Prop extends Lk W W' where
  pv : W'.mu.p = W.mu.p
  pvk : ∀ a, a ∈ W.mu.p → W'.H a = W.H a
theorem Le.refl (W : Wd) : Le W W := ⟨Lk.refl W, rfl, fun _ _ => rfl⟩
theorem Le.trans {W W1 W2 : Wd} (a : Le W W1) (b : Le W1 W2) : Le W W2 :=
  ⟨a.toLk.trans b.toLk, b.pv.trans a.pv, fun x h => (b.pvk x (by rw [a.pv]; exact h)).trans (a.pvk x h)⟩
theorem Rd.lk {W W' : Wd} (l : Lk W W') {a : Addr} {u : HO} (h : Rd W.H a u ∧ Fz W a) : Rd W'.H a u ∧ Fz W' a := by
  rcases h with ⟨h | ⟨o, h⟩, n⟩
  · exact ⟨.inl (l.keep a _ h n).1, (l.keep a _ h n).2⟩
  · exact ⟨.inr ⟨o, (l.keep a _ h n).1⟩, (l.keep a _ h n).2⟩
theorem LstAt.lk {K : Kb} {W W' : Wd} (l : Lk W W') {a : Addr} {xs : List V} (h : LstAt K W a xs) : LstAt K W' a xs := by
  rcases h with h | h
  · exact .inl (Rd.lk l h)
  · exact .inr h
theorem TupAt.lk {K : Kb} {W W' : Wd} (l : Lk W W') {a : Addr} {xs : List V} (h : TupAt K W a xs) : TupAt K W' a xs := by
  rcases h with h | h
  · exact .inl (Rd.lk l h)
  · exact .inr h
mutual
theorem DRel.lk {K : Kb} {W W' : Wd} (l : Lk W W') : ∀ (d : D) (v : V), DRel K W d v → DRel K W' d v
  | .non, _, h => h
  | .bl _, _, h => h
  | .int _, _, h => h
  | .str _, _, h => h
  | .tup ds, _, h => by
    simp only [DRel] at h ⊢
    obtain ⟨a, xs, e, t, r⟩ := h
    exact ⟨a, xs, e, t.lk l, DRels.lk l ds xs r⟩
  | .lst ds, _, h => by
    simp only [DRel] at h ⊢
    obtain ⟨a, xs, e, t, r⟩ := h
    exact ⟨a, xs, e, t.lk l, DRels.lk l ds xs r⟩
  | .obj i, _, h => by
    simp only [DRel] at h ⊢
    obtain ⟨a, e, t⟩ := h
    obtain ⟨r, q⟩ := l.pre
    refine ⟨a, e, ?_⟩
    have hi : i < W.mu.l.length := by
      by_cases hi : i < W.mu.l.length
      · exact hi
      · rw [List.getElem?_eq_none (by omega)] at t; cases t
    rw [q, List.getElem?_append_left hi]
    exact t
  | .exn c ns ds, _, h => by
    simp only [DRel] at h ⊢
    obtain ⟨a, cls, od, h1, h2, h3, h4⟩ := h
    refine ⟨a, cls, od, h1, h2, h3, ?_⟩
    rcases h4 with h4 | ⟨dx, xs, g1, g2, g3, g4, g5⟩
    · exact .inl h4
    · exact .inr ⟨dx, xs, g1, (l.keep dx _ g3 g2).2, (l.keep dx _ g3 g2).1, g4, DRels.lk l ds xs g5⟩
  | .ins c ns ds, _, h => by
    simp only [DRel] at h ⊢
    obtain ⟨a, C, dx, xs, e, hC, h1, f1, h2, f2, hl, r⟩ := h
    exact ⟨a, C, dx, xs, e, hC, (l.keep a _ h1 f1).1, (l.keep a _ h1 f1).2, (l.keep dx _ h2 f2).1, (l.keep dx _ h2 f2).2, hl, DRels.lk l ds xs r⟩
theorem DRels.lk {K : Kb} {W W' : Wd} (l : Lk W W') : ∀ (ds : List D) (vs : List V), DRels K W ds vs → DRels K W' ds vs
  | [], _, h => h
  | d :: ds, _, h => by
    simp only [DRels] at h ⊢
    obtain ⟨v, r, e, h1, h2⟩ := h
    exact ⟨v, r, e, DRel.lk l d v h1, DRels.lk l ds r h2⟩
end
theorem DRel.le {K : Kb} {W W' : Wd} (l : Le W W') (d : D) (v : V) (h : DRel K W d v) : DRel K W' d v := DRel.lk l.toLk d v h
theorem DRels.le {K : Kb} {W W' : Wd} (l : Le W W') (ds : List D) (vs : List V) (h : DRels K W ds vs) : DRels K W' ds vs := DRels.lk l.toLk ds vs h
theorem DRels.length {K : Kb} {W : Wd} : ∀ {ds : List D} {vs : List V}, DRels K W ds vs → ds.length = vs.length
  | [], _, h => by simp only [DRels] at h; subst h; rfl
  | d :: ds, _, h => by
    simp only [DRels] at h
    obtain ⟨v, r, rfl, _, h2⟩ := h
    simp [DRels.length h2]
theorem DRels.get {K : Kb} {W : Wd} : ∀ {ds : List D} {vs : List V} {i : Nat} {d : D}, DRels K W ds vs → ds[i]? = some d → ∃ v, vs[i]? = some v ∧ DRel K W d v
  | [], _, _, _, _, e => by simp at e
  | d :: ds, _, i, d', h, e => by
    simp only [DRels] at h
    obtain ⟨v, r, rfl, h1, h2⟩ := h
    cases i with
    | zero => simp at e; subst e; exact ⟨v, rfl, h1⟩
    | succ i => simpa using DRels.get (i := i) h2 (by simpa using e)
theorem DRels.append {K : Kb} {W : Wd} : ∀ {ds es : List D} {vs ws : List V}, DRels K W ds vs → DRels K W es ws → DRels K W (ds ++ es) (vs ++ ws)
  | [], _, _, _, h, h' => by simp only [DRels] at h; subst h; exact h'
  | d :: ds, es, _, ws, h, h' => by
    simp only [DRels] at h
    obtain ⟨v, r, rfl, h1, h2⟩ := h
    simp only [List.cons_append, DRels]
    exact ⟨v, _, rfl, h1, DRels.append h2 h'⟩
theorem DRels.drop {K : Kb} {W : Wd} : ∀ {ds : List D} {vs : List V} (n : Nat), DRels K W ds vs → DRels K W (ds.drop n) (vs.drop n)
  | _, _, 0, h => h
  | [], _, n + 1, h => by simp only [DRels] at h; subst h; simp [DRels]
  | d :: ds, _, n + 1, h => by
    simp only [DRels] at h
    obtain ⟨v, r, rfl, h1, h2⟩ := h
    exact DRels.drop n h2
theorem DRels.take {K : Kb} {W : Wd} : ∀ {ds : List D} {vs : List V} (n : Nat), DRels K W ds vs → DRels K W (ds.take n) (vs.take n)
  | _, _, 0, h => by simp [DRels]
  | [], _, n + 1, h => by simp only [DRels] at h; subst h; simp [DRels]
  | d :: ds, _, n + 1, h => by
    simp only [DRels] at h
    obtain ⟨v, r, rfl, h1, h2⟩ := h
    simp only [List.take_succ_cons, DRels]
    exact ⟨v, _, rfl, h1, DRels.take n h2⟩
theorem DRels.set {K : Kb} {W : Wd} {d : D} {v : V} (hd : DRel K W d v) : ∀ {ds : List D} {vs : List V} (i : Nat), DRels K W ds vs → DRels K W (ds.set i d) (vs.set i v)
  | [], _, _, h => by simp only [DRels] at h; subst h; simp [DRels]
  | e :: ds, _, 0, h => by
    simp only [DRels] at h
    obtain ⟨w, r, rfl, h1, h2⟩ := h
    simp only [List.set_cons_zero, DRels]
    exact ⟨v, r, rfl, hd, h2⟩
  | e :: ds, _, i + 1, h => by
    simp only [DRels] at h
    obtain ⟨w, r, rfl, h1, h2⟩ := h
    simp only [List.set_cons_succ, DRels]
    exact ⟨w, _, rfl, h1, DRels.set hd i h2⟩
theorem DRels.reverse {K : Kb} {W : Wd} : ∀ {ds : List D} {vs : List V}, DRels K W ds vs → DRels K W ds.reverse vs.reverse
  | [], _, h => by simp only [DRels] at h; subst h; simp [DRels]
  | e :: ds, _, h => by
    simp only [DRels] at h
    obtain ⟨w, r, rfl, h1, h2⟩ := h
    simp only [List.reverse_cons]
    refine DRels.append (DRels.reverse h2) ?_
    simp only [DRels]
    exact ⟨w, [], rfl, h1, rfl⟩

/-! ### the mutable objects -/
/-- a dict whose keys are tuples, its entries (key, where the key's tuple stands, value) -/
def DctO (P : Program) (w : World) (a : Addr) (xs : List (NestedKey × Addr × Value)) : HO := .ext fun h => ∃ o es ep, h.get? a = some o ∧ o.ExactDict ∧ o.data = .dict es ep ∧ es.toList = xs.map (entryOfKey (nestedKind P w))
def KVR (K : Kb) (W : Wd) (i : Nat) (p : D × D) (x : NestedKey × Addr × Value) : Prop := D.isKey p.1 = true ∧ x.1 = D.toK p.1 ∧ DRel K W p.1 (.ref x.2.1) ∧ (∃ v, DRel K W p.2 v ∧ RelV v x.2.2) ∧ D.bel i p.2 = true
/-- a number or a text as a key -/
def D.key1 : D → Option Key
  | .int i => some (.inl i)
  | .str x => some (.inr ⟨x.toArray⟩)
  | _ => none
def KSR (K : Kb) (W : Wd) (i : Nat) (p : D × D) (x : Key × V) : Prop := D.key1 p.1 = some x.1 ∧ DRel K W p.2 x.2 ∧ D.bel i p.2 = true
/-- a field -/
def FRel (K : Kb) (W : Wd) (p : Str × D) (q : Str × V) : Prop := p.1 = q.1 ∧ DRel K W p.2 q.2
/-- a dict that may be written, or one that is never written again -/
def LkH (W : Wd) (a : Addr) (lk : Bool) (u : HO) : Prop := if lk = true then a ∈ W.mu.k ∧ ∃ od, W.H a = some (.frz od u) else a ∉ W.mu.k ∧ W.H a = some u
theorem LkH.there {W : Wd} {a : Addr} {lk : Bool} {u : HO} (h : LkH W a lk u) : ∃ u, W.H a = some u := by
  cases lk with
  | true => obtain ⟨_, od, h⟩ := (show _ ∧ _ from h); exact ⟨_, h⟩
  | false => exact ⟨_, (show _ ∧ _ from h).2⟩
theorem LkH.rd {W : Wd} {a : Addr} {lk : Bool} {u : HO} (h : LkH W a lk u) : Rd W.H a u := by
  cases lk with
  | true => obtain ⟨_, od, h⟩ := (show _ ∧ _ from h); exact .inr ⟨od, h⟩
  | false => exact .inl (show _ ∧ _ from h).2
theorem LkH.lk {W W' : Wd} {a : Addr} {lk : Bool} {u : HO} (e : W'.H a = W.H a) (k : a ∈ W'.mu.k ↔ a ∈ W.mu.k) (h : LkH W a lk u) : LkH W' a lk u := by
  cases lk with
  | true =>
    obtain ⟨h1, od, h2⟩ := (show _ ∧ _ from h)
    exact ⟨k.mpr h1, od, e.trans h2⟩
  | false =>
    obtain ⟨h1, h2⟩ := (show _ ∧ _ from h)
    exact ⟨fun z => h1 (k.mp z), e.trans h2⟩
def ORel (K : Kb) (W : Wd) (i : Nat) (a : Addr) : MO → Prop
  | .lst l => ∃ xs, W.H a = some (.lst xs) ∧ DRels K W l xs ∧ D.bels i l = true ∧ a ∉ W.mu.k
  | .dct lk l => ∃ xs, LkH W a lk (DctO K.P K.w a xs) ∧ (xs.map (·.1)).Nodup ∧ xs.length ≤ sizeLine ∧ (a == sysModules) = false ∧ Paired (KVR K W i) l xs
  | .dks lk l => ∃ kvs, LkH W a lk (.dK kvs) ∧ Paired (KSR K W i) l kvs
  | .ins c fs => ∃ C dx xs, K.mg c = some (.ref C) ∧ W.H a = some (.ins C dx xs) ∧ a ∉ W.mu.k ∧ W.H dx = some (.own a) ∧ Fz W dx ∧ Paired (FRel K W) fs xs ∧ D.bels i (fs.map (·.2)) = true
theorem KVR.lk {K : Kb} {W W' : Wd} (l : Lk W W') {i : Nat} {p : D × D} {x : NestedKey × Addr × Value} (h : KVR K W i p x) : KVR K W' i p x := by
  obtain ⟨h1, h2, h3, ⟨v, h4, h5⟩, h6⟩ := h
  exact ⟨h1, h2, DRel.lk l _ _ h3, ⟨v, DRel.lk l _ _ h4, h5⟩, h6⟩
theorem KSR.lk {K : Kb} {W W' : Wd} (l : Lk W W') {i : Nat} {p : D × D} {x : Key × V} (h : KSR K W i p x) : KSR K W' i p x := ⟨h.1, DRel.lk l _ _ h.2.1, h.2.2⟩
theorem FRel.lk {K : Kb} {W W' : Wd} (l : Lk W W') {p : Str × D} {x : Str × V} (h : FRel K W p x) : FRel K W' p x := ⟨h.1, DRel.lk l _ _ h.2⟩
theorem ORel.lk {K : Kb} {W W' : Wd} (l : Lk W W') {i : Nat} {a : Addr} (e : W'.H a = W.H a) (k : a ∈ W'.mu.k ↔ a ∈ W.mu.k) : ∀ {o : MO}, ORel K W i a o → ORel K W' i a o
  | .lst l', ⟨xs, h1, h2, h3, h4⟩ => ⟨xs, e.trans h1, DRels.lk l l' xs h2, h3, fun z => h4 (k.mp z)⟩
  | .dct lk l', ⟨xs, h1, h2, h3, h4, h5⟩ => ⟨xs, h1.lk e k, h2, h3, h4, Paired.mapP h5 fun _ _ q => q.lk l⟩
  | .dks lk l', ⟨kvs, h1, h2⟩ => ⟨kvs, h1.lk e k, Paired.mapP h2 fun _ _ q => q.lk l⟩
  | .ins c fs, ⟨C, dx, xs, h1, h2, h3, h4, h5, h6, h7⟩ => ⟨C, dx, xs, h1, e.trans h2, fun z => h3 (k.mp z), (l.keep dx _ h4 h5).1, (l.keep dx _ h4 h5).2, Paired.mapP h6 fun _ _ q => q.lk l, h7⟩
structure MRel (K : Kb) (W : Wd) (M : Mem) : Prop where
  len : W.mu.l.length = M.length
  nd : W.mu.l.Nodup
  obj : ∀ i a o, W.mu.l[i]? = some a → M[i]? = some o → ORel K W i a o
  pv : ∀ a, a ∈ W.mu.p → (∃ u, W.H a = some u) ∧ a ∉ W.mu.l
  kk : ∀ a, a ∈ W.mu.k → (∃ u, W.H a = some u) ∧ a ∉ W.mu.p
theorem ORel.there {K : Kb} {W : Wd} {i : Nat} {a : Addr} : ∀ {o : MO}, ORel K W i a o → ∃ u, W.H a = some u
  | .lst _, ⟨xs, h, _⟩ => ⟨_, h⟩
  | .dct _ _, ⟨xs, h, _⟩ => h.there
  | .dks _ _, ⟨xs, h, _⟩ => h.there
  | .ins _ _, ⟨_, _, _, _, h, _⟩ => ⟨_, h⟩
theorem MRel.there {K : Kb} {W : Wd} {M : Mem} (m : MRel K W M) {a : Addr} (h : a ∈ W.mu.l) : ∃ u, W.H a = some u := by
  obtain ⟨i, hi⟩ := List.getElem?_of_mem h
  have hl : i < M.length := by
    rw [← m.len]
    by_cases q : i < W.mu.l.length
    · exact q
    · rw [List.getElem?_eq_none (by omega)] at hi; cases hi
  exact (m.obj i a M[i] hi (List.getElem?_eq_getElem hl)).there
theorem MRel.fresh {K : Kb} {W : Wd} {M : Mem} (m : MRel K W M) {a : Addr} (h : W.H a = none) : Fz W a := by
  refine ⟨.inl fun q => ?_, fun q => ?_⟩
  · obtain ⟨u, e⟩ := m.there q
    rw [h] at e; cases e
  · obtain ⟨⟨u, e⟩, _⟩ := m.pv a q
    rw [h] at e; cases e
/-- what the mutable objects say stays while data stay and they are not written -/
theorem MRel.fzk {K : Kb} {W : Wd} {M : Mem} (m : MRel K W M) {a : Addr} (h : a ∈ W.mu.k) : Fz W a := ⟨.inr h, (m.kk a h).2⟩
theorem MRel.nok {K : Kb} {W : Wd} {M : Mem} (m : MRel K W M) {a : Addr} (h : W.H a = none) : a ∉ W.mu.k := fun q => by
  obtain ⟨⟨u, e⟩, _⟩ := m.kk a q
  rw [h] at e; cases e
theorem MRel.lk {K : Kb} {W W' : Wd} {M : Mem} (m : MRel K W M) (l : Lk W W') (e : W'.mu.l = W.mu.l) (ek : W'.mu.k = W.mu.k) (h : ∀ a, a ∈ W.mu.l → W'.H a = W.H a) (hp : ∀ a, a ∈ W'.mu.p → (∃ u, W'.H a = some u) ∧ a ∉ W.mu.l) : MRel K W' M := by
  refine ⟨by rw [e]; exact m.len, by rw [e]; exact m.nd, fun i a o h1 h2 => ?_, fun a ha => ⟨(hp a ha).1, by rw [e]; exact (hp a ha).2⟩, fun a ha => ?_⟩
  · rw [e] at h1
    exact (m.obj i a o h1 h2).lk l (h a (List.mem_of_getElem? h1)) (by rw [ek])
  · rw [ek] at ha
    obtain ⟨⟨u, eu⟩, _⟩ := m.kk a ha
    have := l.keep a u eu (m.fzk ha)
    exact ⟨⟨u, this.1⟩, this.2.2⟩
/-- a new object that is no mutable one -/
theorem MRel.laid {K : Kb} {W : Wd} {M : Mem} (m : MRel K W M) {p : Addr} (hp : W.H p = none) (o : HO) : Le W ⟨upd W.H p o, W.mu⟩ ∧ MRel K ⟨upd W.H p o, W.mu⟩ M := by
  have ne : ∀ {a : Addr} {u : HO}, W.H a = some u → upd W.H p o a = some u := fun {a u} h => by
    rw [upd_ne (ne_of_none h hp)]; exact h
  have le : Le W ⟨upd W.H p o, W.mu⟩ := ⟨⟨⟨[], by simp⟩, fun a u h n => ⟨ne h, n⟩⟩, rfl, fun a ha => by
    obtain ⟨⟨u, e⟩, _⟩ := m.pv a ha
    rw [e]; exact ne e⟩
  refine ⟨le, m.lk le.toLk rfl rfl (fun a ha => ?_) fun a ha => ?_⟩
  · obtain ⟨u, e⟩ := m.there ha
    rw [e]; exact ne e
  · obtain ⟨⟨u, e⟩, q⟩ := m.pv a ha
    exact ⟨⟨u, ne e⟩, q⟩
/-- a new mutable list -/
theorem MRel.bornO {K : Kb} {W : Wd} {M : Mem} (m : MRel K W M) {p : Addr} (hp : W.H p = none) (o : HO) (mo : MO) (new : ∀ W', Lk W W' → W'.H p = some o → p ∉ W'.mu.k → ORel K W' M.length p mo) :
    Le W ⟨upd W.H p o, ⟨W.mu.l ++ [p], W.mu.p, W.mu.k⟩⟩ ∧ MRel K ⟨upd W.H p o, ⟨W.mu.l ++ [p], W.mu.p, W.mu.k⟩⟩ (M ++ [mo]) := by
  have np := m.fresh hp
  have ne : ∀ {a : Addr} {u : HO}, W.H a = some u → upd W.H p o a = some u := fun {a u} h => by
    rw [upd_ne (ne_of_none h hp)]; exact h
  have le : Le W ⟨upd W.H p o, ⟨W.mu.l ++ [p], W.mu.p, W.mu.k⟩⟩ := ⟨⟨⟨[p], rfl⟩, fun a u h n => ⟨ne h, by
    refine ⟨n.1.imp_left fun n1 => ?_, n.2⟩
    show a ∉ W.mu.l ++ [p]
    simp only [List.mem_append, List.mem_singleton, not_or]
    exact ⟨n1, ne_of_none h hp⟩⟩⟩, rfl, fun a ha => by
    obtain ⟨⟨u, e⟩, _⟩ := m.pv a ha
    rw [e]; exact ne e⟩
  have npl : p ∉ W.mu.l := fun q => by
    obtain ⟨u, e⟩ := m.there q
    rw [hp] at e; cases e
  refine ⟨le, by simp [m.len], ?_, fun i a u h1 h2 => ?_, fun a ha => ?_, fun a ha => ?_⟩
  · show (W.mu.l ++ [p]).Nodup
    rw [List.nodup_append]
    refine ⟨m.nd, by simp, ?_⟩
    intro x hx y hy e
    simp only [List.mem_singleton] at hy
    subst hy; subst e; exact npl hx
  · have h1 : (W.mu.l ++ [p])[i]? = some a := h1
    by_cases hi : i < W.mu.l.length
    · rw [List.getElem?_append_left hi] at h1
      rw [List.getElem?_append_left (by rw [← m.len]; exact hi)] at h2
      obtain ⟨z, ez⟩ := (m.obj i a u h1 h2).there
      exact (m.obj i a u h1 h2).lk le.toLk (by rw [ez]; exact ne ez) Iff.rfl
    · have e : i = W.mu.l.length := by
        have : i < (W.mu.l ++ [p]).length := by
          by_cases q : i < (W.mu.l ++ [p]).length
          · exact q
          · rw [List.getElem?_eq_none (by omega)] at h1; cases h1
        simp at this
        omega
      subst e
      rw [List.getElem?_append_right (Nat.le_refl _)] at h1
      rw [m.len, List.getElem?_append_right (Nat.le_refl _)] at h2
      simp at h1 h2
      subst h1; subst h2
      rw [m.len]
      exact new _ le.toLk upd_same (m.nok hp)
  · obtain ⟨⟨u, e⟩, q⟩ := m.pv a ha
    refine ⟨⟨u, ne e⟩, ?_⟩
    show a ∉ W.mu.l ++ [p]
    simp only [List.mem_append, List.mem_singleton, not_or]
    exact ⟨q, ne_of_none e hp⟩
  · obtain ⟨⟨u, e⟩, q⟩ := m.kk a ha
    exact ⟨⟨u, ne e⟩, q⟩
theorem MRel.born {K : Kb} {W : Wd} {M : Mem} (m : MRel K W M) {p : Addr} (hp : W.H p = none) {l : List D} {xs : List V} (r : DRels K W l xs) (b : D.bels M.length l = true) :
    Le W ⟨upd W.H p (.lst xs), ⟨W.mu.l ++ [p], W.mu.p, W.mu.k⟩⟩ ∧ MRel K ⟨upd W.H p (.lst xs), ⟨W.mu.l ++ [p], W.mu.p, W.mu.k⟩⟩ (M ++ [.lst l]) :=
  m.bornO hp _ _ fun W' lk e k => ⟨xs, e, DRels.lk lk l xs r, b, k⟩
theorem bels_get {n : Nat} : ∀ {l : List D} {i : Nat} {d : D}, D.bels n l = true → l[i]? = some d → D.bel n d = true
  | [], _, _, _, e => by simp at e
  | d :: ds, i, d', h, e => by
    simp only [D.bels, Bool.and_eq_true] at h
    cases i with
    | zero => simp at e; subst e; exact h.1
    | succ i => exact bels_get (i := i) h.2 (by simpa using e)
/-- data leaning on objects below n stays while these stand -/
structure Lo (n : Nat) (W W' : Wd) : Prop where
  mu : ∀ i, i < n → W'.mu.l[i]? = W.mu.l[i]?
  keep : ∀ a o, W.H a = some o → Fz W a → W'.H a = some o ∧ Fz W' a
mutual
theorem DRel.lo {K : Kb} {n : Nat} {W W' : Wd} (l : Lo n W W') : ∀ (d : D) (v : V), D.bel n d = true → DRel K W d v → DRel K W' d v
  | .non, _, _, h => h
  | .bl _, _, _, h => h
  | .int _, _, _, h => h
  | .str _, _, _, h => h
  | .tup ds, _, b, h => by
    simp only [DRel] at h ⊢
    simp only [D.bel] at b
    obtain ⟨a, xs, e, t, r⟩ := h
    refine ⟨a, xs, e, ?_, DRels.lo l ds xs b r⟩
    rcases t with ⟨t | ⟨o, t⟩, nn⟩ | t
    · exact .inl ⟨.inl (l.keep a _ t nn).1, (l.keep a _ t nn).2⟩
    · exact .inl ⟨.inr ⟨o, (l.keep a _ t nn).1⟩, (l.keep a _ t nn).2⟩
    · exact .inr t
  | .lst ds, _, b, h => by
    simp only [DRel] at h ⊢
    simp only [D.bel] at b
    obtain ⟨a, xs, e, t, r⟩ := h
    refine ⟨a, xs, e, ?_, DRels.lo l ds xs b r⟩
    rcases t with ⟨t | ⟨o, t⟩, nn⟩ | t
    · exact .inl ⟨.inl (l.keep a _ t nn).1, (l.keep a _ t nn).2⟩
    · exact .inl ⟨.inr ⟨o, (l.keep a _ t nn).1⟩, (l.keep a _ t nn).2⟩
    · exact .inr t
  | .obj i, _, b, h => by
    simp only [DRel] at h ⊢
    simp only [D.bel, decide_eq_true_eq] at b
    obtain ⟨a, e, t⟩ := h
    exact ⟨a, e, by rw [l.mu i b]; exact t⟩
  | .exn c ns ds, _, b, h => by simp [D.bel] at b
  | .ins c ns ds, _, b, h => by
    simp only [DRel] at h ⊢
    simp only [D.bel] at b
    obtain ⟨a, C, dx, xs, e, hC, h1, f1, h2, f2, hl, r⟩ := h
    exact ⟨a, C, dx, xs, e, hC, (l.keep a _ h1 f1).1, (l.keep a _ h1 f1).2, (l.keep dx _ h2 f2).1, (l.keep dx _ h2 f2).2, hl, DRels.lo l ds xs b r⟩
theorem DRels.lo {K : Kb} {n : Nat} {W W' : Wd} (l : Lo n W W') : ∀ (ds : List D) (vs : List V), D.bels n ds = true → DRels K W ds vs → DRels K W' ds vs
  | [], _, _, h => h
  | d :: ds, _, b, h => by
    simp only [DRels] at h ⊢
    simp only [D.bels, Bool.and_eq_true] at b
    obtain ⟨v, r, e, h1, h2⟩ := h
    exact ⟨v, r, e, DRel.lo l d v b.1 h1, DRels.lo l ds r b.2 h2⟩
end
/-- a mutable list written -/
theorem MRel.wroteO {K : Kb} {W : Wd} {M : Mem} (m : MRel K W M) {i : Nat} {a : Addr} (ha : W.mu.l[i]? = some a) (hk : a ∉ W.mu.k) (o : HO) (mo : MO) (new : ∀ W', Lk W W' → W'.H a = some o → a ∉ W'.mu.k → ORel K W' i a mo) :
    Le W ⟨upd W.H a o, W.mu⟩ ∧ MRel K ⟨upd W.H a o, W.mu⟩ (M.set i mo) := by
  have hm : a ∈ W.mu.l := List.mem_of_getElem? ha
  have hi : i < W.mu.l.length := by
    by_cases q : i < W.mu.l.length
    · exact q
    · rw [List.getElem?_eq_none (by omega)] at ha; cases ha
  have npv : ∀ c, c ∈ W.mu.p → c ≠ a := fun c hc e => (m.pv c hc).2 (e ▸ hm)
  have le : Le W ⟨upd W.H a o, W.mu⟩ := ⟨⟨⟨[], by simp⟩, fun c u h n => ⟨by
    show upd W.H a _ c = some u
    rw [upd_ne (by rintro rfl; exact n.1.elim (fun z => z hm) hk)]; exact h, n⟩⟩, rfl, fun c hc => upd_ne (npv c hc)⟩
  refine ⟨le, by simp [m.len], m.nd, fun j c u h1 h2 => ?_, fun c hc => ?_, fun c hc => ?_⟩
  · by_cases hj : j = i
    · subst hj
      rw [List.getElem?_set_self (by rw [← m.len]; exact hi)] at h2
      cases h2
      have h1 : W.mu.l[j]? = some c := h1
      rw [ha] at h1; cases h1
      exact new _ le.toLk upd_same hk
    · rw [List.getElem?_set_ne (Ne.symm hj)] at h2
      refine (m.obj j c u h1 h2).lk le.toLk ?_ Iff.rfl
      show upd W.H a _ c = _
      rw [upd_ne fun z => hj ?_]
      subst z
      have h1 : W.mu.l[j]? = some c := h1
      have hjl : j < W.mu.l.length := by
        by_cases q : j < W.mu.l.length
        · exact q
        · rw [List.getElem?_eq_none (by omega)] at h1; cases h1
      exact (List.getElem?_inj hjl m.nd).mp (h1.trans ha.symm)
  · obtain ⟨⟨u, e⟩, q⟩ := m.pv c hc
    exact ⟨⟨u, by show upd W.H a _ c = _; rw [upd_ne (npv c hc)]; exact e⟩, q⟩
  · obtain ⟨⟨u, e⟩, q⟩ := m.kk c hc
    exact ⟨⟨u, by show upd W.H a _ c = _; rw [upd_ne (by rintro rfl; exact hk hc)]; exact e⟩, q⟩
/-- a dict that is walked: never written again -/
theorem MRel.lockO {K : Kb} {W : Wd} {M : Mem} (m : MRel K W M) {i : Nat} {a : Addr} (ha : W.mu.l[i]? = some a) (hk : a ∉ W.mu.k) (o : HO) (mo : MO) (new : ∀ W', Lk W W' → W'.H a = some o → a ∈ W'.mu.k → ORel K W' i a mo) :
    Le W ⟨upd W.H a o, ⟨W.mu.l, W.mu.p, a :: W.mu.k⟩⟩ ∧ MRel K ⟨upd W.H a o, ⟨W.mu.l, W.mu.p, a :: W.mu.k⟩⟩ (M.set i mo) := by
  have hm : a ∈ W.mu.l := List.mem_of_getElem? ha
  have hi : i < W.mu.l.length := by
    by_cases q : i < W.mu.l.length
    · exact q
    · rw [List.getElem?_eq_none (by omega)] at ha; cases ha
  have npv : ∀ c, c ∈ W.mu.p → c ≠ a := fun c hc e => (m.pv c hc).2 (e ▸ hm)
  have le : Le W ⟨upd W.H a o, ⟨W.mu.l, W.mu.p, a :: W.mu.k⟩⟩ := ⟨⟨⟨[], by simp⟩, fun c u h n => ⟨by
    show upd W.H a _ c = some u
    rw [upd_ne (by rintro rfl; exact n.1.elim (fun z => z hm) hk)]; exact h, n.1.imp_right fun z => List.mem_cons_of_mem _ z, n.2⟩⟩, rfl, fun c hc => upd_ne (npv c hc)⟩
  refine ⟨le, by simp [m.len], m.nd, fun j c u h1 h2 => ?_, fun c hc => ?_, fun c hc => ?_⟩
  · by_cases hj : j = i
    · subst hj
      rw [List.getElem?_set_self (by rw [← m.len]; exact hi)] at h2
      cases h2
      have h1 : W.mu.l[j]? = some c := h1
      rw [ha] at h1; cases h1
      exact new _ le.toLk upd_same List.mem_cons_self
    · rw [List.getElem?_set_ne (Ne.symm hj)] at h2
      have hca : c ≠ a := fun z => hj (by
        subst z
        have h1 : W.mu.l[j]? = some c := h1
        have hjl : j < W.mu.l.length := by
          by_cases q : j < W.mu.l.length
          · exact q
          · rw [List.getElem?_eq_none (by omega)] at h1; cases h1
        exact (List.getElem?_inj hjl m.nd).mp (h1.trans ha.symm))
      exact (m.obj j c u h1 h2).lk le.toLk (upd_ne hca) (by simp [hca])
  · obtain ⟨⟨u, e⟩, q⟩ := m.pv c hc
    exact ⟨⟨u, by show upd W.H a _ c = _; rw [upd_ne (npv c hc)]; exact e⟩, q⟩
  · by_cases hca : c = a
    · subst hca
      exact ⟨⟨o, upd_same⟩, fun z => npv _ z rfl⟩
    · have hc : c ∈ W.mu.k := by simpa [hca] using hc
      obtain ⟨⟨u, e⟩, q⟩ := m.kk c hc
      exact ⟨⟨u, by show upd W.H a _ c = _; rw [upd_ne hca]; exact e⟩, q⟩
theorem MRel.wrote {K : Kb} {W : Wd} {M : Mem} (m : MRel K W M) {i : Nat} {a : Addr} (ha : W.mu.l[i]? = some a) (hk : a ∉ W.mu.k) {l : List D} {xs : List V} (r : DRels K W l xs) (b : D.bels i l = true) :
    Le W ⟨upd W.H a (.lst xs), W.mu⟩ ∧ MRel K ⟨upd W.H a (.lst xs), W.mu⟩ (M.set i (.lst l)) :=
  m.wroteO ha hk _ _ fun W' lk e k => ⟨xs, e, DRels.lk lk l xs r, b, k⟩
/-- the slots -/
abbrev EV := List (Option D)
structure SRel (K : Kb) (W : Wd) (s : L2.St) (r : EV) : Prop where
  len : s.length = r.length
  get : ∀ (i : Nat) (d : D), r[i]? = some (some d) → ∃ v, s[i]? = some (some v) ∧ DRel K W d v
theorem SRel.lk {K : Kb} {W W' : Wd} {s : L2.St} {r : EV} (l : Lk W W') (h : SRel K W s r) : SRel K W' s r :=
  ⟨h.len, fun i d e => let ⟨v, e1, q⟩ := h.get i d e; ⟨v, e1, DRel.lk l d v q⟩⟩
theorem SRel.le {K : Kb} {W W' : Wd} {s : L2.St} {r : EV} (l : Le W W') (h : SRel K W s r) : SRel K W' s r := h.lk l.toLk
theorem SRel.set {K : Kb} {W : Wd} {s : L2.St} {r : EV} {d : D} {v : V} (h : SRel K W s r) (q : DRel K W d v) (i : Nat) : SRel K W (s.set i (some v)) (r.set i (some d)) := by
  refine ⟨by simp [h.len], fun j e hj => ?_⟩
  by_cases hij : i = j
  · subst hij
    have hi : i < r.length := by
      by_cases z : i < r.length
      · exact z
      · rw [List.getElem?_eq_none (by simpa using z)] at hj; cases hj
    rw [List.getElem?_set_self hi] at hj
    cases hj
    exact ⟨v, by rw [List.getElem?_set_self (by rw [h.len]; exact hi)], q⟩
  · rw [List.getElem?_set_ne hij] at hj ⊢
    exact h.get j e hj
end RI

namespace RI
mutual
def D.beq : D → D → Bool
  | .non, .non => true
  | .bl a, .bl b => a == b
  | .int a, .int b => decide (a = b)
  | .str a, .str b => decide (a = b)
  | .tup a, .tup b => D.beqs a b
  | .lst a, .lst b => D.beqs a b
  | .obj a, .obj b => Nat.beq a b
  | .exn c ns ds, .exn c' ns' ds' => decide (c = c') && decide (ns = ns') && D.beqs ds ds'
  | .ins c ns ds, .ins c' ns' ds' => decide (c = c') && decide (ns = ns') && D.beqs ds ds'
  | _, _ => false
def D.beqs : List D → List D → Bool
  | [], [] => true
  | a :: as, b :: bs => D.beq a b && D.beqs as bs
  | _, _ => false
end
mutual
theorem D.of_beq : ∀ a b : D, D.beq a b = true → a = b
  | .non, b, h => by cases b <;> simp_all [D.beq]
  | .bl x, b, h => by cases b <;> simp_all [D.beq]
  | .int x, b, h => by cases b <;> simp_all [D.beq]
  | .str x, b, h => by cases b <;> simp_all [D.beq]
  | .tup x, b, h => by
    cases b with
    | tup y => simp only [D.beq] at h; rw [D.of_beqs x y h]
    | _ => simp [D.beq] at h
  | .lst x, b, h => by
    cases b with
    | lst y => simp only [D.beq] at h; rw [D.of_beqs x y h]
    | _ => simp [D.beq] at h
  | .obj x, b, h => by
    cases b with
    | obj y => simp only [D.beq] at h; rw [Nat.eq_of_beq_eq_true h]
    | _ => simp [D.beq] at h
  | .exn c ns ds, b, h => by
    cases b with
    | exn c' ns' ds' =>
      simp only [D.beq, Bool.and_eq_true, decide_eq_true_eq] at h
      rw [h.1.1, h.1.2, D.of_beqs ds ds' h.2]
    | _ => simp [D.beq] at h
  | .ins c ns ds, b, h => by
    cases b with
    | ins c' ns' ds' =>
      simp only [D.beq, Bool.and_eq_true, decide_eq_true_eq] at h
      rw [h.1.1, h.1.2, D.of_beqs ds ds' h.2]
    | _ => simp [D.beq] at h
theorem D.of_beqs : ∀ a b : List D, D.beqs a b = true → a = b
  | [], b, h => by cases b <;> simp_all [D.beqs]
  | x :: xs, b, h => by
    cases b with
    | nil => simp [D.beqs] at h
    | cons y ys =>
      simp only [D.beqs, Bool.and_eq_true] at h
      rw [D.of_beq x y h.1, D.of_beqs xs ys h.2]
end
mutual
theorem D.beq_self : ∀ a : D, D.beq a a = true
  | .non => rfl
  | .bl x => by simp [D.beq]
  | .int x => by simp [D.beq]
  | .str x => by simp [D.beq]
  | .tup x => by simp only [D.beq]; exact D.beqs_self x
  | .lst x => by simp only [D.beq]; exact D.beqs_self x
  | .obj x => by simp [D.beq]
  | .exn c ns ds => by simp only [D.beq, D.beqs_self ds, decide_true, Bool.and_self]
  | .ins c ns ds => by simp only [D.beq, D.beqs_self ds, decide_true, Bool.and_self]
theorem D.beqs_self : ∀ a : List D, D.beqs a a = true
  | [] => rfl
  | x :: xs => by simp only [D.beqs, D.beq_self x, D.beqs_self xs, Bool.and_self]
end
end RI

namespace RI
open PySem PySem.Spec PyProof.Rows L2

/-! ### what is wanted of a meaning -/
/-- with the wish about exceptions; the slots that stand now -/
structure Kx where
  b : Kb
  xw : Ex → L2.St → Wd → Prop
  cur : L2.St
instance : Coe Kx Kb := ⟨Kx.b⟩
abbrev Kx.at (K : Kx) (s : L2.St) : Kx := ⟨K.b, K.xw, s⟩
abbrev Kb.no (K : Kb) : Kx := ⟨K, fun _ _ _ => False, []⟩
def Sat {A : Type} (K : Kx) (W : Wd) (r : Res A) (P : A → Mem → Wd → Prop) : Prop := match r with
  | .ok a M => ∀ W', Le W W' → MRel K.b W' M → P a M W'
  | .exc x M => ∀ W', Le W W' → MRel K.b W' M → K.xw x K.cur W'
  | .bad => False
theorem Sat.imp {A : Type} {K : Kx} {W : Wd} {r : Res A} {P P' : A → Mem → Wd → Prop} (h : Sat K W r P) (f : ∀ a M W', Le W W' → MRel K.b W' M → P a M W' → P' a M W') : Sat K W r P' := by
  cases r with
  | ok a M => exact fun W' l m => f a M W' l m (h W' l m)
  | exc x M => exact h
  | bad => exact h
theorem Sat.le {A : Type} {K : Kx} {W W1 : Wd} {r : Res A} {P : A → Mem → Wd → Prop} (h : Sat K W r P) (l : Le W W1) : Sat K W1 r P := by
  cases r with
  | ok a M => exact fun W' l' m => h W' (l.trans l') m
  | exc x M => exact fun W' l' m => h W' (l.trans l') m
  | bad => exact h
theorem Sat.bind {A B : Type} {K : Kx} {W : Wd} {r : Res A} {f : A → Mem → Res B} {P : B → Mem → Wd → Prop} (h : Sat K W (r.bind f) P) : Sat K W r (fun a M1 W1 => Sat K W1 (f a M1) P) := by
  cases r with
  | ok a M => exact fun W' l m => Sat.le h l
  | exc x M => exact h
  | bad => exact h
theorem Sat.ok {A : Type} {K : Kx} {W : Wd} {a : A} {M : Mem} {P : A → Mem → Wd → Prop} (h : Sat K W (.ok a M) P) (m : MRel K.b W M) : P a M W := h W (Le.refl W) m
/-- what raises nothing has no wish -/
theorem Sat.noX {A : Type} {K : Kx} {W : Wd} {r : Res A} {P : A → Mem → Wd → Prop} (h : Sat K W r.noX P) : Sat K.b.no W r P := by
  cases r with
  | ok a M => exact h
  | exc x M => exact h.elim
  | bad => exact h
theorem Sat.up {A : Type} {K : Kx} {W : Wd} {r : Res A} {P : A → Mem → Wd → Prop} (h : Sat K.b.no W r P) : Sat K W r P := by
  cases r with
  | ok a M => exact h
  | exc x M => exact fun W' l m => (h W' l m).elim
  | bad => exact h
abbrev PV (K : Kb) (Q : VK) : D → Mem → Wd → Prop := fun d _ W => ∀ v, DRel K W d v → Q v W.H
abbrev PVs (K : Kb) (Q : List V → Hp → Prop) : List D → Mem → Wd → Prop := fun ds _ W => ∀ vs, DRels K W ds vs → Q vs W.H
abbrev PB (Q : Bool → Hp → Prop) : Bool → Mem → Wd → Prop := fun b _ W => Q b W.H
abbrev PR (K : Kb) (Q : L2.St → Hp → Prop) : EV → Mem → Wd → Prop := fun r _ W => ∀ s, SRel K W s r → Q s W.H

abbrev FT := Nat → List D → Mem → Res D
abbrev ME := FT → EV → Mem → Res D
abbrev MT := FT → EV → Mem → Res Bool
abbrev MA := FT → EV → Mem → Res (List D)
inductive Fl where
  | next (r : EV) | ret (d : D) | brk (r : EV) | cont (r : EV) | rse (x : Ex) (r : EV)
abbrev MS := FT → EV → Mem → Res Fl
abbrev MG := FT → D → EV → Mem → Res EV
abbrev MGs := FT → List D → EV → Mem → Res EV
def PF (K : Kx) (Dn : Ends) : Fl → Mem → Wd → Prop := fun f _ W => match f with
  | .next r => ∀ s, SRel K W s r → Dn.nx s W.H
  | .brk r => ∀ s, SRel K W s r → Dn.bk s W.H
  | .cont r => ∀ s, SRel K W s r → Dn.ct s W.H
  | .ret d => ∀ v, DRel K W d v → Dn.rt v W.H
  | .rse x r => ∀ s, SRel K W s r → K.xw x s W
/-- at a statement: an exception leaves with the slots that stand -/
def Res.toS {A : Type} (r : Res A) (e : EV) (f : A → Mem → Res Fl) : Res Fl := match r with
  | .ok a M => f a M
  | .exc x M => .ok (.rse x e) M
  | .bad => .bad
@[simp] theorem Res.toS_ok {A : Type} (a : A) (M : Mem) (e : EV) (f : A → Mem → Res Fl) : (Res.ok a M).toS e f = f a M := rfl
@[simp] theorem Res.toS_exc {A : Type} (x : Ex) (M : Mem) (e : EV) (f : A → Mem → Res Fl) : (Res.exc x M).toS e f = .ok (.rse x e) M := rfl
@[simp] theorem Res.toS_bad {A : Type} (e : EV) (f : A → Mem → Res Fl) : (Res.bad : Res A).toS e f = .bad := rfl
theorem Sat.toS {A : Type} {K : Kx} {W : Wd} {r : Res A} {e : EV} {f : A → Mem → Res Fl} {Dn : Ends} {s : L2.St} (h : Sat K.b.no W (r.toS e f) (PF K Dn)) (sr : SRel K W s e) : Sat (K.at s) W r (fun a M1 W1 => Sat K.b.no W1 (f a M1) (PF K Dn)) := by
  cases r with
  | ok a M => exact fun W' l m => Sat.le h l
  | exc x M => exact fun W' l m => h W' l m s (sr.le l)
  | bad => exact h

def At (K : Kb) (s : L2.St) (H : Hp) (P : Mu → EV → Mem → Prop) : Prop := ∃ mu M r, MRel K ⟨H, mu⟩ M ∧ SRel K ⟨H, mu⟩ s r ∧ P mu r M
def rdE (K : Kx) (F : FT) (m : ME) : TE := fun s H Q => At K s H fun mu r M => Sat (K.at s) ⟨H, mu⟩ (m F r M) (PV K Q)
def rdT (K : Kx) (F : FT) (m : MT) : TT := fun s H Q => At K s H fun mu r M => Sat (K.at s) ⟨H, mu⟩ (m F r M) (PB Q)
def rdA (K : Kx) (F : FT) (m : MA) : TA := fun s H Q => At K s H fun mu r M => Sat (K.at s) ⟨H, mu⟩ (m F r M) (PVs K Q)
def rdS (K : Kx) (F : FT) (m : MS) : TS := fun Dn s H => At K s H fun mu r M => Sat K.b.no ⟨H, mu⟩ (m F r M) (PF K Dn)
/-- targets: the value is some data there -/
def rdG (K : Kx) (F : FT) (m : MG) : TG := fun v s H Q => At K s H fun mu r M => ∃ d, DRel K ⟨H, mu⟩ d v ∧ Sat K.b.no ⟨H, mu⟩ (m F d r M) (PR K Q)
def rdGs (K : Kx) (F : FT) (m : MGs) : TGs := fun vs s H Q => At K s H fun mu r M => ∃ ds, DRels K ⟨H, mu⟩ ds vs ∧ Sat K.b.no ⟨H, mu⟩ (m F ds r M) (PR K Q)

/-! ### tables and calls -/
structure Fn where
  name : Str
  ps : List Str
  N : List Str
  body : MS
  keep : Bool
structure Tb where
  fns : List Fn
  con : List (Str × D)
  blt : List Str
  /-- exception classes without fields -/
  exs : List Str
  /-- (raised, named in a clause, whether it is caught) -/
  exm : List (Str × Str × Bool)
/-- what the text says of an exception class -/
def ExCls (K : PySem.W.Frag) (mg : Str → Option Value) (c : Str) : Prop := ∃ C : Addr, mg c = some (.ref C) ∧ PySem.W.keepIn K (.ref C) = true ∧ PySem.W.excIn K C [.type "ValueError", .type "Exception", .type "BaseException", .type "object"] "ValueError.__new__" = true ∧ PySem.W.subIn K (.ref C) (.type "BaseException") = some true ∧ PySem.W.typeIn K (.ref C) = some (.type "type")
def ExMat (K : PySem.W.Frag) (mg : Str → Option Value) (p : Str × Str × Bool) : Prop := ∃ C A : Addr, mg p.1 = some (.ref C) ∧ mg p.2.1 = some (.ref A) ∧ PySem.W.exmOne K (.ref C) (.ref A) = some p.2.2
def startE (N : List Str) (ds : List D) : EV := ds.map some ++ List.replicate (N.length - ds.length) none
def fin (keep : Bool) (mark : Nat) (d : D) (M : Mem) : Res D :=
  if keep then .ok d M else
    if D.bel mark (D.frz (frzM M mark 3) d) then .ok (D.frz (frzM M mark 3) d) (M.take mark) else .bad
/-- an exception's fields without objects that go -/
def finX (mark : Nat) (x : Ex) (M : Mem) : Res D :=
  if D.bels mark (D.frzs (frzM M mark 3) (x.fs.map (·.2))) then .exc ⟨x.cls, x.fs.map fun p => (p.1, D.frz (frzM M mark 3) p.2)⟩ (M.take mark) else .bad
def retOf (keep : Bool) (mark : Nat) : Res Fl → Res D
  | .ok (.ret d) M => fin keep mark d M
  | .ok (.next _) M => fin keep mark .non M
  | .ok (.rse x _) M => finX mark x M
  | _ => .bad
def callF (T : Tb) : Nat → FT
  | 0 => fun _ _ _ => .bad
  | n + 1 => fun k ds M => match T.fns[k]? with
    | none => .bad
    | some f => if ds.length = f.ps.length then retOf f.keep M.length (f.body (callF T n) (startE f.N ds) M) else .bad
/-- an exception as it stands: its class, its dict -/
def ExRel (K : Kb) (W : Wd) (x : Ex) (cls : Value) (d : Option Addr) : Prop := K.mg x.cls = some cls ∧ match d with
  | none => x.fs = []
  | some dx => Fz W dx ∧ ∃ fs, W.H dx = some (.xd fs) ∧ Paired (FRel K W) x.fs fs
/-- the wish of E, told by data -/
def xwOf (K : Kb) (E : XK) : Ex → L2.St → Wd → Prop := fun x _ W => ∀ cls d, ExRel K W x cls d → E cls d W.H
def spF (T : Tb) (K : Kb) (ps : List Str) (n k : Nat) : Sp := fun vs H Q E => vs.length = ps.length ∧ ∃ mu M ds, MRel K ⟨H, mu⟩ M ∧ DRels K ⟨H, mu⟩ ds vs ∧ Sat ⟨K, xwOf K E, []⟩ ⟨H, mu⟩ (callF T n k ds M) (PV K Q)

/-- what is known of data wherever it stands -/
def KRel (K : Kb) (d : D) (v : V) : Prop := ∀ W, DRel K W d v
/-- where code is compiled -/
structure CC where
  sc : Scope
  N : List Str
  fn : Str → Bool
  mt : List (Nat × Nat)
  calm : Bool
  /-- the def's own block -/
  top : Bool
/-- the exception that is handled -/
def hxOf (X : Cx) : Option (Addr × Value × Option Addr) := if X.calm = true then none else X.pn.head?.map fun p => (p.1, p.2.cls, p.2.dict)
abbrev kb (X : Cx) : Kb := ⟨X.K, X.prog, X.w, X.mg, hxOf X⟩
abbrev kb0 (X : Cx) : Kb := ⟨X.K, X.prog, X.w, X.mg, none⟩
abbrev kx (X : Cx) (wx : Ex → L2.St → Wd → Prop) : Kx := ⟨kb X, wx, []⟩
/-- the wish, as it is told of the heap -/
def wOf (X : Cx) (wx : Ex → L2.St → Wd → Prop) : WX := fun cls d σ H => ∃ x mu, ExRel (kb X) ⟨H, mu⟩ x cls d ∧ wx x σ ⟨H, mu⟩
structure CxOk (T : Tb) (n : Nat) (C : CC) (X : Cx) (wx : Ex → L2.St → Wd → Prop) : Prop where
  sc : X.env.scope = C.sc
  N : X.N = C.N
  nd : X.N.Nodup
  fn : X.fn = C.fn
  kind : C.sc.kind = .function
  calm : X.calm = C.calm
  un : X.A.units + 200 < cLine
  room : C.calm = true → Room n X.A
  stk : C.top = true → X.stack = X.env :: X.outer ∧ X.env.frame = some X.env.locals
  pas : PassesOwn (model X.prog X.w) X.A X.env X.xe
  tk : Takes X (wOf X wx)
  con : ∀ x d, T.con.lookup x = some d → ∃ u v, X.mg x = some u ∧ RelV v u ∧ KRel (kb X) d v
  blt : ∀ x, x ∈ T.blt → X.mg x = none
  exs : ∀ c, c ∈ T.exs → ExCls X.K X.mg c
  exm : ∀ p, p ∈ T.exm → ExMat X.K X.mg p
  fns : ∀ k f, T.fns[k]? = some f → ∃ a fd, X.mg f.name = some (.ref a) ∧ PySem.W.keepIn X.K (.ref a) = true ∧ Binds X.K fd f.ps [] ∧ FnOk X.prog X.w X.K X.mg X.base (L2.CX X.prog X.w) n a fd f.ps (spF T (kb0 X) f.ps n k)
theorem CxOk.kbq {T : Tb} {n : Nat} {C : CC} {X : Cx} {wx : Ex → L2.St → Wd → Prop} (h : CxOk T n C X wx) (hc : C.calm = true) : kb X = kb0 X := by
  have : hxOf X = none := if_pos (h.calm.trans hc)
  unfold kb kb0
  rw [this]
def OkE (T : Tb) (C : CC) (e : Expr) (m : ME) : Prop := ∀ n X wx, CxOk T n C X wx → PE X e (rdE (kx X wx) (callF T n) m)
def OkT (T : Tb) (C : CC) (e : Expr) (m : MT) : Prop := ∀ n X wx, CxOk T n C X wx → PT X e (rdT (kx X wx) (callF T n) m)
def OkA (T : Tb) (C : CC) (es : List Expr) (m : MA) : Prop := ∀ n X wx, CxOk T n C X wx → PA X es (rdA (kx X wx) (callF T n) m)
def OkS (T : Tb) (C : CC) (st : Stmt) (m : MS) : Prop := ∀ n X wx, CxOk T n C X wx → PS X st (rdS (kx X wx) (callF T n) m)
def OkSs (T : Tb) (C : CC) (st : List Stmt) (m : MS) : Prop := ∀ n X wx, CxOk T n C X wx → PSs X st (rdS (kx X wx) (callF T n) m)
def OkG (T : Tb) (C : CC) (e : Expr) (m : MG) : Prop := ∀ n X wx, CxOk T n C X wx → PG X e (rdG (kx X wx) (callF T n) m)
def OkGs (T : Tb) (C : CC) (es : List Expr) (m : MGs) : Prop := ∀ n X wx, CxOk T n C X wx → PGs X es (rdGs (kx X wx) (callF T n) m)

/-! ### a reading made stronger -/
theorem PE.of {X : Cx} {e : Expr} {t t' : TE} (h : PE X e t) (f : ∀ s H Q, t' s H Q → t s H Q) : PE X e t' := ⟨fun pins s σ H Q I q => h.run pins s σ H Q I (f σ H Q q)⟩
theorem PT.of {X : Cx} {e : Expr} {t t' : TT} (h : PT X e t) (f : ∀ s H Q, t' s H Q → t s H Q) : PT X e t' := ⟨fun pins s σ H Q I q => h.run pins s σ H Q I (f σ H Q q)⟩
theorem PA.of {X : Cx} {e : List Expr} {t t' : TA} (h : PA X e t) (f : ∀ s H Q, t' s H Q → t s H Q) : PA X e t' := ⟨fun pos pins s σ H Q I q => h.run pos pins s σ H Q I (f σ H Q q)⟩
theorem PS.of {X : Cx} {e : Stmt} {t t' : TS} (h : PS X e t) (f : ∀ D s H, t' D s H → t D s H) : PS X e t' := ⟨fun pins s σ H D I q => h.run pins s σ H D I (f D σ H q)⟩
theorem PSs.of {X : Cx} {e : List Stmt} {t t' : TS} (h : PSs X e t) (f : ∀ D s H, t' D s H → t D s H) : PSs X e t' := ⟨fun pins s σ H D I q => h.run pins s σ H D I (f D σ H q)⟩
theorem PG.of {X : Cx} {e : Expr} {t t' : TG} (h : PG X e t) (f : ∀ v s H Q, t' v s H Q → t v s H Q) : PG X e t' := ⟨fun pins s σ H v u Q I r q => h.run pins s σ H v u Q I r (f v σ H Q q)⟩
theorem PGs.of {X : Cx} {e : List Expr} {t t' : TGs} (h : PGs X e t) (f : ∀ v s H Q, t' v s H Q → t v s H Q) : PGs X e t' := ⟨fun pins s σ H v u Q I r q => h.run pins s σ H v u Q I r (f v σ H Q q)⟩

/-! ### names and constants -/
def mVar (i : Nat) : ME := fun _ r M => match r[i]? with
  | some (some d) => .ok d M
  | _ => .bad
def mC (d : D) : ME := fun _ _ M => .ok d M
variable {T : Tb} {C : CC}
theorem ok_var {i : Nat} {x : Str} {pos : Pos} (hN : C.N[i]? = some x) (hv : Vis C.sc x) (hd : (x == ("__debug__" : Str)) = false) (hcd : (x == ("__classdict__" : Str)) = false) : OkE T C (.Name x pos) (mVar i) := by
  intro n X wx h
  refine PE.of (pe_var (i := i) (by rw [h.N]; exact hN) (by rw [h.sc]; exact hv) hd hcd) fun s H Q q => ?_
  obtain ⟨mu, M, r, mr, sr, sat⟩ := q
  unfold mVar at sat
  split at sat
  · rename_i d e
    obtain ⟨v, ev, dv⟩ := sr.get i d e
    exact ⟨v, ev, sat.ok mr v dv⟩
  · exact sat.elim
theorem ok_c {e : Expr} {d : D} {v : V} (hp : ∀ X : Cx, PE X e (tC v)) (hd : ∀ K : Kb, KRel K d v) : OkE T C e (mC d) := by
  intro n X wx h
  refine PE.of (hp X) fun s H Q q => ?_
  obtain ⟨mu, M, r, mr, sr, sat⟩ := q
  exact sat.ok mr v (hd _ _)
theorem ok_int {i j pos} : OkE T C (.Constant (.int i) j pos) (mC (.int i)) := ok_c (v := .int i) (fun _ => pe_int) fun _ _ => rfl
theorem ok_bl {b j pos} : OkE T C (.Constant (.bool b) j pos) (mC (.bl b)) := ok_c (v := .bl b) (fun _ => pe_bl) fun _ _ => rfl
theorem ok_non {j pos} : OkE T C (.Constant .none j pos) (mC .non) := ok_c (v := .non) (fun _ => pe_non) fun _ _ => rfl
theorem ok_str {x : Str} {j pos} : OkE T C (.Constant (.str x) j pos) (mC (.str x.cps.toList)) := ok_c (v := .str x) (fun _ => pe_str) fun _ _ => by
  simp [DRel]
theorem ok_con {x : Str} {d : D} {pos : Pos} (hl : T.con.lookup x = some d) (hg : C.sc.names.lookup x = some .globalImplicit) (hd : (x == ("__debug__" : Str)) = false) : OkE T C (.Name x pos) (mC d) := by
  intro n X wx h
  obtain ⟨u, v, e, rv, kr⟩ := h.con x d hl
  refine PE.of (pe_glob (v := v) (by show X.env.kindOf x = _; unfold Env.kindOf; rw [h.sc]; exact hg) e rv hd) fun s H Q q => ?_
  obtain ⟨mu, M, r, mr, sr, sat⟩ := q
  exact sat.ok mr v (kr _)

/-! ### arguments and displays -/
def mNil : MA := fun _ _ M => .ok [] M
def mCons (m : ME) (ms : MA) : MA := fun F r M => (m F r M).bind fun d M1 => (ms F r M1).bind fun ds M2 => .ok (d :: ds) M2
theorem ok_anil : OkA T C [] mNil := by
  intro n X wx h
  refine PA.of pa_nil fun s H Q q => ?_
  obtain ⟨mu, M, r, mr, sr, sat⟩ := q
  exact sat.ok mr [] rfl
def noStar : Expr → Bool
  | .Starred .. => false
  | _ => true
theorem noStar_each {e : Expr} {es : List Expr} {env : Env} (h : noStar e = true) : starEach (e :: es) env = (false, eval e env) :: starEach es env := by
  cases e <;> first | rfl | (exact absurd h (by decide)) | cases h
theorem ok_acons {e : Expr} {es : List Expr} {m : ME} {ms : MA} (hs : noStar e = true) (h1 : OkE T C e m) (h2 : OkA T C es ms) : OkA T C (e :: es) (mCons m ms) := by
  intro n X wx h
  refine PA.of (pa_cons (h1 n X wx h) (h2 n X wx h) (noStar_each hs)) fun s H Q q => ?_
  obtain ⟨mu, M, r, mr, sr, sat⟩ := q
  refine ⟨mu, M, r, mr, sr, sat.bind.imp fun d M1 W1 l1 m1 s1 v dv => ?_⟩
  refine ⟨W1.mu, M1, r, m1, sr.le l1, s1.bind.imp fun ds M2 W2 l2 m2 s2 vs dvs => ?_⟩
  exact s2.ok m2 (v :: vs) ⟨v, vs, rfl, DRel.le l2 d v dv, dvs⟩
abbrev LIM : Nat := 16777216
def mTup (ms : MA) : ME := fun F r M => (ms F r M).bind fun ds M1 => if ds.length ≤ LIM then .ok (.tup ds) M1 else .bad
def mLst (ms : MA) : ME := fun F r M => (ms F r M).bind fun ds M1 => if ds.length ≤ LIM then .ok (.lst ds) M1 else .bad
def newO (ds : List D) (M : Mem) : Res D := if D.bels M.length ds then .ok (.obj M.length) (M ++ [.lst ds]) else .bad
def mLstM (ms : MA) : ME := fun F r M => (ms F r M).bind fun ds M1 => if ds.length ≤ LIM then newO ds M1 else .bad
theorem lim_eq : LIM = sizeLine := by rw [sizeLine_eq]
theorem sat_ite {A : Type} {K : Kx} {W : Wd} {c : Prop} [Decidable c] {r : Res A} {P : A → Mem → Wd → Prop} (h : Sat K W (if c then r else .bad) P) : c ∧ Sat K W r P := by
  by_cases hc : c
  · rw [if_pos hc] at h; exact ⟨hc, h⟩
  · rw [if_neg hc] at h; exact h.elim
/-- a new tuple, a new list that is never changed, a new mutable list -/
theorem new_tup {K : Kx} {W : Wd} {M : Mem} {ds : List D} {vs : List V} {Q : VK} (m : MRel K W M) (dv : DRels K W ds vs) (h : Sat K W (.ok (.tup ds) M) (PV K Q)) {p : Addr} (hp : W.H p = none) : Q (.ref p) (upd W.H p (.tup vs)) := by
  obtain ⟨l, m'⟩ := m.laid hp (.tup vs)
  refine h _ l m' (.ref p) ?_
  simp only [DRel]
  exact ⟨p, vs, rfl, .inl ⟨.inl upd_same, m.fresh hp⟩, DRels.le l ds vs dv⟩
theorem new_lst {K : Kx} {W : Wd} {M : Mem} {ds : List D} {vs : List V} {Q : VK} (m : MRel K W M) (dv : DRels K W ds vs) (h : Sat K W (.ok (.lst ds) M) (PV K Q)) {p : Addr} (hp : W.H p = none) : Q (.ref p) (upd W.H p (.lst vs)) := by
  obtain ⟨l, m'⟩ := m.laid hp (.lst vs)
  refine h _ l m' (.ref p) ?_
  simp only [DRel]
  exact ⟨p, vs, rfl, .inl ⟨.inl upd_same, m.fresh hp⟩, DRels.le l ds vs dv⟩
theorem new_obj {K : Kx} {W : Wd} {M : Mem} {ds : List D} {vs : List V} {Q : VK} (m : MRel K W M) (dv : DRels K W ds vs) (h : Sat K W (newO ds M) (PV K Q)) {p : Addr} (hp : W.H p = none) : Q (.ref p) (upd W.H p (.lst vs)) := by
  obtain ⟨b, h⟩ := sat_ite h
  obtain ⟨l, m'⟩ := m.born hp dv b
  refine h _ l m' (.ref p) ?_
  simp only [DRel]
  refine ⟨p, rfl, ?_⟩
  show (W.mu.l ++ [p])[M.length]? = some p
  rw [← m.len, List.getElem?_append_right (Nat.le_refl _)]
  simp
theorem ok_tup {es : List Expr} {k pos} {ms : MA} (h1 : OkA T C es ms) : OkE T C (.Tuple es k pos) (mTup ms) := by
  intro n X wx h
  refine PE.of (pe_tup (h1 n X wx h)) fun s H Q q => ?_
  obtain ⟨mu, M, r, mr, sr, sat⟩ := q
  refine ⟨mu, M, r, mr, sr, sat.bind.imp fun ds M1 W1 l1 m1 s1 vs dvs => ?_⟩
  obtain ⟨hl, s1⟩ := sat_ite s1
  exact ⟨by rw [← dvs.length, ← lim_eq]; exact hl, fun p hp => new_tup m1 dvs s1 hp⟩
theorem ok_lst {es : List Expr} {pos} {ms : MA} (h1 : OkA T C es ms) : OkE T C (.List es pos) (mLst ms) := by
  intro n X wx h
  refine PE.of (pe_lst (h1 n X wx h)) fun s H Q q => ?_
  obtain ⟨mu, M, r, mr, sr, sat⟩ := q
  refine ⟨mu, M, r, mr, sr, sat.bind.imp fun ds M1 W1 l1 m1 s1 vs dvs => ?_⟩
  obtain ⟨hl, s1⟩ := sat_ite s1
  exact ⟨by rw [← dvs.length, ← lim_eq]; exact hl, fun p hp => new_lst m1 dvs s1 hp⟩
theorem ok_lstM {es : List Expr} {pos} {ms : MA} (h1 : OkA T C es ms) : OkE T C (.List es pos) (mLstM ms) := by
  intro n X wx h
  refine PE.of (pe_lst (h1 n X wx h)) fun s H Q q => ?_
  obtain ⟨mu, M, r, mr, sr, sat⟩ := q
  refine ⟨mu, M, r, mr, sr, sat.bind.imp fun ds M1 W1 l1 m1 s1 vs dvs => ?_⟩
  obtain ⟨hl, s1⟩ := sat_ite s1
  exact ⟨by rw [← dvs.length, ← lim_eq]; exact hl, fun p hp => new_obj m1 dvs s1 hp⟩

/-! ### two values -/
def rB (K : Kb) (f : D → D → Mem → Res D) : R2 := fun x y H Q => ∃ mu M dx dy, MRel K ⟨H, mu⟩ M ∧ DRel K ⟨H, mu⟩ dx x ∧ DRel K ⟨H, mu⟩ dy y ∧ Sat K.no ⟨H, mu⟩ (f dx dy M) (PV K Q)
def mB (f : D → D → Mem → Res D) (a b : ME) : ME := fun F r M => (a F r M).bind fun x M1 => (b F r M1).bind fun y M2 => (f x y M2).noX
theorem tOp_of {K : Kx} {F : FT} {f : D → D → Mem → Res D} {a b : ME} {s : L2.St} {H : Hp} {Q : VK} (q : rdE K F (mB f a b) s H Q) : tOp (rB K.b f) (rdE K F a) (rdE K F b) s H Q := by
  obtain ⟨mu, M, r, mr, sr, sat⟩ := q
  refine ⟨mu, M, r, mr, sr, sat.bind.imp fun x M1 W1 l1 m1 s1 v dv => ?_⟩
  refine ⟨W1.mu, M1, r, m1, sr.le l1, s1.bind.imp fun y M2 W2 l2 m2 s2 u du => ?_⟩
  exact ⟨W2.mu, M2, x, y, m2, DRel.le l2 x v dv, du, s2.noX⟩
theorem ok_bin {a b : Expr} {op : Operator} {pos : Pos} {f : D → D → Mem → Res D} {ma mb : ME} (ho : ∀ n X wx, CxOk T n C X wx → OpR X (binaryOp op) (rB (kb X) f)) (ha : OkE T C a ma) (hb : OkE T C b mb) : OkE T C (.BinOp a op b pos) (mB f ma mb) := by
  intro n X wx h
  exact PE.of (pe_op (ho n X wx h) (ha n X wx h) (hb n X wx h)) fun s H Q q => tOp_of q
theorem ok_cmp {a b : Expr} {op : CmpOp} {pos : Pos} {f : D → D → Mem → Res D} {ma mb : ME} (ho : ∀ n X wx, CxOk T n C X wx → OpR X (compareOp op) (rB (kb X) f)) (ha : OkE T C a ma) (hb : OkE T C b mb) (hm : behindInMarks op b = false) : OkE T C (.Compare a [op] [b] pos) (mB f ma mb) := by
  intro n X wx h
  exact PE.of (pe_cmpR (ho n X wx h) (ha n X wx h) (hb n X wx h) hm) fun s H Q q => tOp_of q
/-- a value that is a bool, as a test -/
def mTB (m : ME) : MT := fun F r M => (m F r M).bind fun d M1 => match d with
  | .bl b => .ok b M1
  | _ => .bad
theorem tB_of {K : Kx} {F : FT} {m : ME} {s : L2.St} {H : Hp} {Q : Bool → Hp → Prop} (q : rdT K F (mTB m) s H Q) : tTest (rdE K F m) s H Q := by
  obtain ⟨mu, M, r, mr, sr, sat⟩ := q
  refine ⟨mu, M, r, mr, sr, sat.bind.imp fun d M1 W1 l1 m1 s1 v dv => ?_⟩
  cases d with
  | bl b =>
    cases (show v = .bl b from dv)
    exact ⟨b, rfl, s1.ok m1⟩
  | _ => exact s1.elim
theorem ok_tcmp {a b : Expr} {op : CmpOp} {pos : Pos} {f : D → D → Mem → Res D} {ma mb : ME} (ho : ∀ n X wx, CxOk T n C X wx → OpR X (compareOp op) (rB (kb X) f)) (ha : OkE T C a ma) (hb : OkE T C b mb) (hm : behindInMarks op b = false) : OkT T C (.Compare a [op] [b] pos) (mTB (mB f ma mb)) := by
  intro n X wx h
  refine PT.of (pt_cmpR (ho n X wx h) (ha n X wx h) (hb n X wx h) hm) fun s H Q q => ?_
  obtain ⟨mu, M, r, mr, sr, sat⟩ := tB_of q
  exact tOp_of ⟨mu, M, r, mr, sr, sat⟩
end RI

namespace RI
open PySem PySem.Spec PyProof.Rows L2
variable {T : Tb} {C : CC}

/-! ### lists and tuples that are read -/
def lstD (M : Mem) : D → Option (List D)
  | .lst l => some l
  | .obj i => match M[i]? with
    | some (.lst l) => some l
    | _ => none
  | _ => none
def seqD (M : Mem) : D → Option (List D)
  | .tup l => some l
  | .lst l => some l
  | .obj i => match M[i]? with
    | some (.lst l) => some l
    | _ => none
  | _ => none
theorem lstD_at {K : Kb} {W : Wd} {M : Mem} {d : D} {l : List D} {v : V} (m : MRel K W M) (h : lstD M d = some l) (r : DRel K W d v) : ∃ a xs, v = .ref a ∧ SqL K.K W.H a xs ∧ DRels K W l xs := by
  cases d with
  | lst l' =>
    simp only [lstD, Option.some.injEq] at h
    subst h
    simp only [DRel] at r
    obtain ⟨a, xs, e, q, r⟩ := r
    exact ⟨a, xs, e, q.sq, r⟩
  | obj i =>
    simp only [DRel] at r
    obtain ⟨a, e, q⟩ := r
    simp only [lstD] at h
    cases e2 : M[i]? with
    | none => rw [e2] at h; cases h
    | some o =>
      rw [e2] at h
      cases o with
      | lst l' =>
        simp only [Option.some.injEq] at h
        subst h
        obtain ⟨xs, e3, r3, _⟩ := m.obj i a _ q e2
        exact ⟨a, xs, e, SqL.of e3, r3⟩
      | dct _ l' => cases h
      | dks _ l' => cases h
      | ins _ l' => cases h
  | _ => simp [lstD] at h
theorem seqD_at {K : Kb} {W : Wd} {M : Mem} {d : D} {l : List D} {v : V} (m : MRel K W M) (h : seqD M d = some l) (r : DRel K W d v) : ∃ a xs, v = .ref a ∧ (SqL K.K W.H a xs ∨ SqT K.K W.H a xs) ∧ DRels K W l xs := by
  by_cases ht : ∃ l', d = .tup l'
  · obtain ⟨l', rfl⟩ := ht
    simp only [seqD, Option.some.injEq] at h
    subst h
    simp only [DRel] at r
    obtain ⟨a, xs, e, q, r⟩ := r
    exact ⟨a, xs, e, .inr q.sq, r⟩
  · have h' : lstD M d = some l := by
      cases d with
      | tup l' => exact absurd ⟨l', rfl⟩ ht
      | _ => exact h
    obtain ⟨a, xs, e, q, r⟩ := lstD_at m h' r
    exact ⟨a, xs, e, .inl q, r⟩
theorem Rd.lstM {X : Cx} {pins : List (Addr × Obj)} {σ : L2.St} {H : Hp} {s : Shared} {l : Addr} {xs : List V} (I : Inv X pins σ H s) (hH : Rd H l (.lst xs)) : xs.length ≤ sizeLine ∧ ∃ (its : List Value) (n : Nat), Vals xs its ∧ xs.length = its.length ∧ s.heap.get? l = some { cls := .type "list", data := .seq its.toArray n } := by
  obtain ⟨z, its, n, r, e⟩ := hH.ok I.hok
  exact ⟨z, its, n, r, r.length, e⟩

/-! ### arithmetic -/
def cmul (i j : Int) : Bool := Nat.ble i.natAbs 18446744073709551615 || Nat.ble j.natAbs 18446744073709551615
def addD : D → D → Mem → Res D
  | .int i, .int j, M => .ok (.int (i + j)) M
  | .str a, .str b, M => if a.length + b.length ≤ LIM then .ok (.str (a ++ b)) M else .bad
  | .tup a, .tup b, M => if a.length + b.length ≤ LIM then .ok (.tup (a ++ b)) M else .bad
  | x, y, M => match lstD M x, lstD M y with
    | some a, some b => if a.length + b.length ≤ LIM then .ok (.lst (a ++ b)) M else .bad
    | _, _ => .bad
theorem op_catR {X : Cx} : OpR X (binaryOp .Add) (fun x y H Q => ∃ l b xs zs, x = .ref l ∧ y = .ref b ∧ SqL X.K H l xs ∧ SqL X.K H b zs ∧ xs.length + zs.length ≤ sizeLine ∧ ∀ p, H p = none → Q (.ref p) (upd H p (.lst (xs ++ zs)))) := by
  intro pins s σ H x y v u Q I rx ry h
  obtain ⟨l, b, xs, zs, rfl, rfl, hH, hB, hz, q⟩ := h
  cases rx
  cases ry
  obtain ⟨its, r, pl, z⟩ := I.list hH
  obtain ⟨its2, r2, pl2, z2⟩ := I.list hB
  have hl := r.length
  have hl2 := r2.length
  obtain ⟨⟨cls, dd, data, sl⟩, ho, hc, n, hd⟩ := pl.isList
  obtain ⟨⟨cls2, dd2, data2, sl2⟩, ho2, hc2, n2, hd2⟩ := pl2.isList
  simp only at hc hd hc2 hd2
  subst hc hd hc2 hd2
  refine concat_meets ⟨_, ho, rfl⟩ ⟨_, ho2, rfl⟩ noFill_list_add seq_list_add PySem.F.slot_list_add PySem.F.entry_list_add (PySem.F.args_list_add_2 _ _) (list_addW l b its.toArray its2.toArray n n2 dd dd2 sl sl2 (by simp only [List.size_toArray]; omega)) ⟨ho, ho2, ?_⟩
  have ea : its.toArray ++ its2.toArray = (its ++ its2).toArray := by simp
  rw [ea]
  exact ⟨.ref _, _, I.lnew (t' := s.toks) (r.append r2) (by rw [List.length_append]; omega), rfl, q _ I.fresh⟩
theorem str_len {a : List Nat} : (⟨a.toArray⟩ : Str).length = a.length := by simp [Str.length]
theorem str_app {a b : List Nat} : (⟨a.toArray⟩ ++ ⟨b.toArray⟩ : Str) = ⟨(a ++ b).toArray⟩ := by
  show Str.mk _ = _
  simp
theorem or_add {X : Cx} : OpR X (binaryOp .Add) (rB (kb X) addD) := by
  intro pins s σ H x y v u Q I rx ry h
  obtain ⟨mu, M, dx, dy, mr, hx, hy, sat⟩ := h
  unfold addD at sat
  split at sat
  · cases (show x = _ from hx); cases (show y = _ from hy)
    exact op_add pins s σ H _ _ v u Q I rx ry ⟨_, _, rfl, rfl, sat.ok mr _ rfl⟩
  · rename_i a b
    obtain ⟨hl, sat⟩ := sat_ite sat
    cases (show x = _ from hx); cases (show y = _ from hy)
    refine op_add_str pins s σ H _ _ v u Q I rx ry ⟨_, _, rfl, rfl, by rw [str_len, str_len, ← lim_eq]; exact hl, sat.ok mr _ ?_⟩
    rw [str_app]; rfl
  · rename_i a b
    obtain ⟨hl, sat⟩ := sat_ite sat
    simp only [DRel] at hx hy
    obtain ⟨p, xs, rfl, tp, rx'⟩ := hx
    obtain ⟨q, ys, rfl, tq, ry'⟩ := hy
    have l1 := rx'.length
    have l2 := ry'.length
    refine op_catA pins s σ H _ _ v u Q I rx ry ⟨p, q, xs, ys, rfl, rfl, tp.sq, tq.sq, by rw [← l1, ← l2, ← lim_eq]; exact hl, fun e => ?_, fun _ e => ?_, fun _ _ c hc => ?_⟩
    · subst e
      cases a with
      | nil => exact sat.ok mr _ (by simp only [DRel]; exact ⟨q, ys, rfl, tq, ry'⟩)
      | cons _ _ => simp at l1
    · subst e
      cases b with
      | nil => exact sat.ok mr _ (by simp only [DRel, List.append_nil]; exact ⟨p, xs, rfl, tp, rx'⟩)
      | cons _ _ => simp at l2
    · exact new_tup mr (rx'.append ry') sat hc
  · split at sat
    · rename_i a b ea eb
      obtain ⟨hl, sat⟩ := sat_ite sat
      obtain ⟨p, xs, rfl, tp, rx'⟩ := lstD_at mr ea hx
      obtain ⟨q, ys, rfl, tq, ry'⟩ := lstD_at mr eb hy
      exact op_catR pins s σ H _ _ v u Q I rx ry ⟨p, q, xs, ys, rfl, rfl, tp, tq, by rw [← rx'.length, ← ry'.length, ← lim_eq]; exact hl, fun c hc => new_lst mr (rx'.append ry') sat hc⟩
    · exact sat.elim
def intD (c : Int → Int → Bool) (g : Int → Int → D) : D → D → Mem → Res D
  | .int i, .int j, M => if c i j then .ok (g i j) M else .bad
  | _, _, _ => .bad
theorem or_int {X : Cx} {f : Value → Value → Sem Value} {c : Int → Int → Bool} {g : Int → Int → D} {P : Int → Int → Prop} {gv : Int → Int → V} (ho : OpR X f (rI P gv)) (hc : ∀ i j, c i j = true → P i j) (hg : ∀ K i j, KRel K (g i j) (gv i j)) : OpR X f (rB (kb X) (intD c g)) := by
  intro pins s σ H x y v u Q I rx ry h
  obtain ⟨mu, M, dx, dy, mr, hx, hy, sat⟩ := h
  unfold intD at sat
  split at sat
  · obtain ⟨hl, sat⟩ := sat_ite sat
    cases (show x = _ from hx); cases (show y = _ from hy)
    exact ho pins s σ H _ _ v u Q I rx ry ⟨_, _, rfl, rfl, hc _ _ hl, sat.ok mr _ (hg _ _ _ _)⟩
  · exact sat.elim
theorem or_int0 {X : Cx} {f : Value → Value → Sem Value} {g : Int → Int → D} {gv : Int → Int → V} (ho : OpR X f (rI0 gv)) (hg : ∀ K i j, KRel K (g i j) (gv i j)) : OpR X f (rB (kb X) (intD (fun _ _ => true) g)) := by
  intro pins s σ H x y v u Q I rx ry h
  obtain ⟨mu, M, dx, dy, mr, hx, hy, sat⟩ := h
  unfold intD at sat
  split at sat
  · obtain ⟨hl, sat⟩ := sat_ite sat
    cases (show x = _ from hx); cases (show y = _ from hy)
    exact ho pins s σ H _ _ v u Q I rx ry ⟨_, _, rfl, rfl, sat.ok mr _ (hg _ _ _ _)⟩
  · exact sat.elim
def subD : D → D → Mem → Res D := intD (fun _ _ => true) fun i j => .int (i - j)
def mulD : D → D → Mem → Res D := intD cmul fun i j => .int (i * j)
def fdivD : D → D → Mem → Res D := intD (fun _ j => decide (0 < j) && decide (j < 1073741824)) fun i j => .int (i / j)
def modD : D → D → Mem → Res D := intD (fun _ j => decide (0 < j)) fun i j => .int (i % j)
def powD : D → D → Mem → Res D := intD (fun i j => decide (0 ≤ j) && decide (j ≤ 1000000) && decide (i.natAbs < 2 ^ 64)) fun i j => .int (i ^ j.toNat)
theorem or_sub {X : Cx} : OpR X (binaryOp .Sub) (rB (kb X) subD) := or_int0 op_sub fun _ _ _ _ => rfl
theorem or_mul {X : Cx} : OpR X (binaryOp .Mult) (rB (kb X) mulD) := or_int op_mul (fun i j h => by
  have e : (2 : Int) ^ 64 = 18446744073709551616 := by decide +kernel
  show (-(2 ^ 64) < i ∧ i < 2 ^ 64) ∨ (-(2 ^ 64) < j ∧ j < 2 ^ 64)
  simp only [cmul, Bool.or_eq_true] at h
  rw [e]
  rcases h with h | h
  · have h := Nat.le_of_ble_eq_true h
    exact .inl (by omega)
  · have h := Nat.le_of_ble_eq_true h
    exact .inr (by omega)) fun _ _ _ _ => rfl
theorem or_fdiv {X : Cx} : OpR X (binaryOp .FloorDiv) (rB (kb X) fdivD) := or_int op_fdiv (fun i j h => by
  simp only [Bool.and_eq_true, decide_eq_true_eq] at h; exact h) fun _ _ _ _ => rfl
theorem or_mod {X : Cx} : OpR X (binaryOp .Mod) (rB (kb X) modD) := or_int op_mod (fun i j h => by
  simp only [decide_eq_true_eq] at h; exact h) fun _ _ _ _ => rfl
theorem or_pow {X : Cx} : OpR X (binaryOp .Pow) (rB (kb X) powD) := or_int op_pow (fun i j h => by
  simp only [Bool.and_eq_true, decide_eq_true_eq] at h; exact ⟨h.1.1, h.1.2, h.2⟩) fun _ _ _ _ => rfl
/-! ### equality of data -/
mutual
def D.toP : D → PyData
  | .non => .none
  | .bl b => .bool b
  | .int i => .int i
  | .str s => .str ⟨s.toArray⟩
  | .tup l => .tuple (D.toPs l)
  | .lst l => .list (D.toPs l)
  | .obj _ => .none
  | .exn _ _ _ => .none
  | .ins _ _ _ => .none
def D.toPs : List D → List PyData
  | [] => []
  | d :: ds => D.toP d :: D.toPs ds
end
mutual
def D.noObj : D → Bool
  | .obj _ => false
  | .exn _ _ _ => false
  | .ins _ _ _ => false
  | .tup l => D.noObjs l
  | .lst l => D.noObjs l
  | _ => true
def D.noObjs : List D → Bool
  | [] => true
  | d :: ds => D.noObj d && D.noObjs ds
end
mutual
theorem D.dp {K : Kb} {W : Wd} : ∀ (d : D) (v : V), D.noObj d = true → DRel K W d v → Dp K.K W.H v (D.toP d)
  | .non, v, _, h => by cases (show v = _ from h); exact .non
  | .bl b, v, _, h => by cases (show v = _ from h); exact .bl b
  | .int i, v, _, h => by cases (show v = _ from h); exact .int i
  | .str s, v, _, h => by cases (show v = _ from h); exact .str _
  | .tup l, v, b, h => by
    simp only [DRel] at h
    simp only [D.noObj] at b
    obtain ⟨a, xs, rfl, t, r⟩ := h
    exact .tup t.sq (D.dps l xs b r)
  | .lst l, v, b, h => by
    simp only [DRel] at h
    simp only [D.noObj] at b
    obtain ⟨a, xs, rfl, t, r⟩ := h
    exact .lst t.sq (D.dps l xs b r)
  | .obj i, v, b, h => by simp [D.noObj] at b
  | .exn _ _ _, v, b, h => by simp [D.noObj] at b
  | .ins _ _ _, v, b, h => by simp [D.noObj] at b
theorem D.dps {K : Kb} {W : Wd} : ∀ (ds : List D) (vs : List V), D.noObjs ds = true → DRels K W ds vs → DpAll K.K W.H vs (D.toPs ds)
  | [], vs, _, h => by cases (show vs = _ from h); exact .nil
  | d :: ds, vs, b, h => by
    simp only [DRels] at h
    simp only [D.noObjs, Bool.and_eq_true] at b
    obtain ⟨v, r, rfl, h1, h2⟩ := h
    exact .cons (D.dp d v b.1 h1) (D.dps ds r b.2 h2)
end
/-- an object's own list, its items not objects -/
def derefD (M : Mem) (d : D) : D := match d with
  | .obj i => match M[i]? with
    | some (.lst l) => .lst l
    | _ => .obj i
  | d => d
theorem deref_dp {K : Kb} {W : Wd} {M : Mem} {d : D} {v : V} (m : MRel K W M) (h : DRel K W d v) (b : D.noObj (derefD M d) = true) : Dp K.K W.H v (D.toP (derefD M d)) := by
  cases d with
  | obj i =>
    simp only [DRel] at h
    obtain ⟨a, rfl, q⟩ := h
    simp only [derefD] at b ⊢
    cases e : M[i]? with
    | none => rw [e] at b; simp [D.noObj] at b
    | some o =>
      cases o with
      | lst l =>
        rw [e] at b
        simp only [D.noObj] at b
        obtain ⟨xs, e3, r3, _⟩ := m.obj i a _ q e
        exact .lst (SqL.of e3) (D.dps l xs b r3)
      | dct _ l => rw [e] at b; simp [D.noObj] at b
      | dks _ l => rw [e] at b; simp [D.noObj] at b
      | ins _ l => rw [e] at b; simp [D.noObj] at b
  | _ => exact D.dp _ _ b h
def eqD (neg : Bool) (x y : D) (M : Mem) : Res D :=
  if (D.noObj (derefD M x) && D.noObj (derefD M y) && SeqAt.shaped (D.toP (derefD M x)) && SeqAt.shaped (D.toP (derefD M y))) = true then
    .ok (.bl (if neg then !PyData.eqv (D.toP (derefD M x)) (D.toP (derefD M y)) else PyData.eqv (D.toP (derefD M x)) (D.toP (derefD M y)))) M else .bad
theorem or_eq {X : Cx} (hu : X.A.units + 64 < cLine) : OpR X (compareOp .Eq) (rB (kb X) (eqD false)) := by
  intro pins s σ H x y v u Q I rx ry h
  obtain ⟨mu, M, dx, dy, mr, hx, hy, sat⟩ := h
  obtain ⟨hc, sat⟩ := sat_ite sat
  simp only [Bool.and_eq_true] at hc
  obtain ⟨⟨⟨h1, h2⟩, h3⟩, h4⟩ := hc
  exact op_eqD hu pins s σ H x y v u Q I rx ry ⟨_, _, deref_dp mr hx h1, deref_dp mr hy h2, h3, h4, sat.ok mr _ rfl⟩
theorem or_ne {X : Cx} (hu : X.A.units + 64 < cLine) : OpR X (compareOp .NotEq) (rB (kb X) (eqD true)) := by
  intro pins s σ H x y v u Q I rx ry h
  obtain ⟨mu, M, dx, dy, mr, hx, hy, sat⟩ := h
  obtain ⟨hc, sat⟩ := sat_ite sat
  simp only [Bool.and_eq_true] at hc
  obtain ⟨⟨⟨h1, h2⟩, h3⟩, h4⟩ := hc
  exact op_neD hu pins s σ H x y v u Q I rx ry ⟨_, _, deref_dp mr hx h1, deref_dp mr hy h2, h3, h4, sat.ok mr _ rfl⟩
/-- not None -/
def D.noN : D → Bool
  | .non => false
  | _ => true
/-! ### order of data -/
def ordD (g : Int → Int → Bool) (f : PyData → PyData → Bool) (x y : D) (M : Mem) : Res D := match x, y with
  | .int i, .int j => .ok (.bl (g i j)) M
  | x, y => if (D.noObj (derefD M x) && D.noObj (derefD M y) && PySem.W.alike (D.toP (derefD M x)) (D.toP (derefD M y)) && D.noN (derefD M x) && Nat.ble (D.toP (derefD M x)).depth 60) = true then .ok (.bl (f (D.toP (derefD M x)) (D.toP (derefD M y)))) M else .bad
theorem noN_ne {d : D} (h : D.noN d = true) (h' : D.noObj d = true) : D.toP d ≠ .none := by
  cases d <;> simp_all [D.noN, D.toP, D.noObj]
theorem or_ord {X : Cx} {op : CmpOp} {g : Int → Int → Bool} {f : PyData → PyData → Bool} (hi : OpR X (compareOp op) (rI0 fun i j => .bl (g i j)))
    (hd : ∀ {A : Around} {E : Value → Shared → Prop} {s : Shared} {a b : Value} {da db : PyData} {as bs : List Addr} {Q : Value → Shared → Prop}, Reads s.heap a da as → Reads s.heap b db bs → PySem.W.alike da db = true → da ≠ .none → A.units + min da.depth db.depth < cLine → Q (.bool (f da db)) s → wpAny (model X.prog X.w) A (compareOp op a b) Q E s)
    (hu : X.A.units + 64 < cLine) : OpR X (compareOp op) (rB (kb X) (ordD g f)) := by
  intro pins s σ H x y v u Q I rx ry h
  obtain ⟨mu, M, dx, dy, mr, hx, hy, sat⟩ := h
  unfold ordD at sat
  split at sat
  · cases (show x = _ from hx); cases (show y = _ from hy)
    exact hi pins s σ H _ _ v u Q I rx ry ⟨_, _, rfl, rfl, sat.ok mr _ rfl⟩
  · obtain ⟨hc, sat⟩ := sat_ite sat
    simp only [Bool.and_eq_true] at hc
    obtain ⟨⟨⟨⟨h1, h2⟩, h3⟩, h4⟩, h5⟩ := hc
    obtain ⟨as, r1⟩ := Dp.reads I _ _ _ (deref_dp mr hx h1) rx
    obtain ⟨bs, r2⟩ := Dp.reads I _ _ _ (deref_dp mr hy h2) ry
    have h5 := Nat.le_of_ble_eq_true h5
    exact hd r1 r2 h3 (noN_ne h4 h1) (by omega) ⟨.bl _, H, I, rfl, sat.ok mr _ rfl⟩
def ltD : D → D → Mem → Res D := ordD (fun i j => decide (i < j)) PySem.W.dataLt
def leD : D → D → Mem → Res D := ordD (fun i j => decide (i ≤ j)) (fun a b => !PySem.W.dataLt b a)
def gtD : D → D → Mem → Res D := ordD (fun i j => decide (j < i)) (fun a b => PySem.W.dataLt b a)
def geD : D → D → Mem → Res D := ordD (fun i j => decide (j ≤ i)) (fun a b => !PySem.W.dataLt a b)
theorem or_lt {X : Cx} (hu : X.A.units + 64 < cLine) : OpR X (compareOp .Lt) (rB (kb X) ltD) := or_ord op_lt PySem.W.lt_data hu
theorem or_le {X : Cx} (hu : X.A.units + 64 < cLine) : OpR X (compareOp .LtE) (rB (kb X) leD) := or_ord op_le PySem.W.le_data hu
theorem or_gt {X : Cx} (hu : X.A.units + 64 < cLine) : OpR X (compareOp .Gt) (rB (kb X) gtD) := or_ord op_gt PySem.W.gt_data hu
theorem or_ge {X : Cx} (hu : X.A.units + 64 < cLine) : OpR X (compareOp .GtE) (rB (kb X) geD) := or_ord op_ge PySem.W.ge_data hu
/-- is None, is not None -/
def D.isNon : D → Bool
  | .non => true
  | _ => false
def isD (neg : Bool) (x y : D) (M : Mem) : Res D := match y with
  | .non => .ok (.bl (if neg then !x.isNon else x.isNon)) M
  | _ => .bad
theorem drel_non {K : Kb} {W : Wd} {d : D} {v : V} (h : DRel K W d v) : decide (v = .non) = d.isNon := by
  cases d with
  | non => cases (show v = _ from h); rfl
  | bl b => cases (show v = _ from h); rfl
  | int i => cases (show v = _ from h); rfl
  | str i => cases (show v = _ from h); rfl
  | tup l => simp only [DRel] at h; obtain ⟨a, xs, rfl, _⟩ := h; rfl
  | lst l => simp only [DRel] at h; obtain ⟨a, xs, rfl, _⟩ := h; rfl
  | obj i => simp only [DRel] at h; obtain ⟨a, rfl, _⟩ := h; rfl
  | exn c ns ds => simp only [DRel] at h; obtain ⟨a, cls, od, _, rfl, _⟩ := h; rfl
  | ins c ns ds => simp only [DRel] at h; obtain ⟨a, C, dx, xs, rfl, _⟩ := h; rfl
theorem or_is {X : Cx} : OpR X (compareOp .Is) (rB (kb X) (isD false)) := by
  intro pins s σ H x y v u Q I rx ry h
  obtain ⟨mu, M, dx, dy, mr, hx, hy, sat⟩ := h
  unfold isD at sat
  split at sat
  · exact op_isN pins s σ H x y v u Q I rx ry ⟨hy, by rw [drel_non hx]; exact sat.ok mr _ rfl⟩
  · exact sat.elim
theorem or_isnot {X : Cx} : OpR X (compareOp .IsNot) (rB (kb X) (isD true)) := by
  intro pins s σ H x y v u Q I rx ry h
  obtain ⟨mu, M, dx, dy, mr, hx, hy, sat⟩ := h
  unfold isD at sat
  split at sat
  · exact op_notN pins s σ H x y v u Q I rx ry ⟨hy, by rw [drel_non hx]; exact sat.ok mr _ rfl⟩
  · exact sat.elim
end RI

namespace RI
open PySem PySem.Spec PyProof.Rows L2

/-! ### dicts whose keys are tuples -/
mutual
theorem key_is {X : Cx} {pins : List (Addr × Obj)} {σ : L2.St} {H : Hp} {s : Shared} {mu : Mu} (I : Inv X pins σ H s) : ∀ (d : D) (v : V) (u : Value), D.keyly d = true → DRel (kb X) ⟨H, mu⟩ d v → RelV v u → NestedIs s.heap (D.toK d) u
  | .non, v, u, _, h, r => by cases (show v = _ from h); cases (show u = _ from r); exact .none
  | .bl b, v, u, _, h, r => by cases (show v = _ from h); cases (show u = _ from r); exact .bool rfl
  | .int i, v, u, _, h, r => by
    cases (show v = _ from h)
    obtain ⟨t, rfl⟩ := (show ∃ t, u = Value.int i t from r)
    exact .int i t
  | .str x, v, u, _, h, r => by
    cases (show v = _ from h)
    obtain ⟨t, rfl⟩ := (show ∃ t, u = Value.str _ t from r)
    exact .text _ t
  | .tup l, v, u, k, h, r => by
    simp only [DRel] at h
    simp only [D.keyly] at k
    obtain ⟨a, xs, rfl, t, dr⟩ := h
    cases (show u = _ from r)
    obtain ⟨its, rv, p, hz⟩ := I.tuple t.sq
    obtain ⟨o, ho, hc, n, hd⟩ := p
    exact .tup ho hc hd (by simpa using keys_is I l xs its k dr rv)
  | .lst _, _, _, k, _, _ => by simp [D.keyly] at k
  | .obj _, _, _, k, _, _ => by simp [D.keyly] at k
  | .exn _ _ _, _, _, k, _, _ => by simp [D.keyly] at k
theorem keys_is {X : Cx} {pins : List (Addr × Obj)} {σ : L2.St} {H : Hp} {s : Shared} {mu : Mu} (I : Inv X pins σ H s) : ∀ (ds : List D) (vs : List V) (us : List Value), D.keylys ds = true → DRels (kb X) ⟨H, mu⟩ ds vs → Vals vs us → NestedAll s.heap (D.toKs ds) us
  | [], vs, us, _, h, r => by
    cases (show vs = _ from h)
    cases r
    exact .nil
  | d :: ds, vs, us, k, h, r => by
    simp only [DRels] at h
    simp only [D.keylys, Bool.and_eq_true] at k
    obtain ⟨v, vr, rfl, h1, h2⟩ := h
    cases r with
    | cons r1 r2 => exact .cons (key_is I d v _ k.1 h1 r1) (keys_is I ds vr _ k.2 h2 r2)
end
theorem isKey_is {X : Cx} {pins : List (Addr × Obj)} {σ : L2.St} {H : Hp} {s : Shared} {mu : Mu} (I : Inv X pins σ H s) {d : D} {v : V} {u : Value} (k : D.isKey d = true) (h : DRel (kb X) ⟨H, mu⟩ d v) (r : RelV v u) : ∃ a, v = .ref a ∧ u = .ref a ∧ (nestedKind X.prog X.w).is s.heap (D.toK d) a := by
  cases d with
  | tup l =>
    simp only [D.isKey, Bool.and_eq_true] at k
    have h' := h
    simp only [DRel] at h'
    obtain ⟨a, xs, rfl, t, dr⟩ := h'
    cases (show u = _ from r)
    refine ⟨a, rfl, rfl, key_is I (.tup l) _ _ (by simp only [D.keyly]; exact k.1) h rfl, ?_⟩
    have := Nat.le_of_ble_eq_true k.2
    simp only [D.toK, NestedKey.depth]
    omega
  | _ => simp [D.isKey] at k
def dgetD (k : NestedKey) : List (D × D) → Option D
  | [] => none
  | p :: r => if NestedKey.beq (D.toK p.1) k = true then some p.2 else dgetD k r
def dsetD (kd v : D) (l : List (D × D)) : List (D × D) := if (dgetD (D.toK kd) l).isSome = true then l.map fun p => if NestedKey.beq (D.toK p.1) (D.toK kd) = true then (p.1, v) else p else l ++ [(kd, v)]
theorem beq_iff (a b : NestedKey) : NestedKey.beq a b = true ↔ a = b := by
  rw [← NestedKey.decide_eq]; exact decide_eq_true_iff
theorem dget_rel {K : Kb} {W : Wd} {i : Nat} (k : NestedKey) : ∀ {l : List (D × D)} {xs : List (NestedKey × Addr × Value)}, Paired (KVR K W i) l xs → (∀ d, dgetD k l = some d → ∃ p, atKey xs k = some p ∧ ∃ v, DRel K W d v ∧ RelV v p.2) ∧ (dgetD k l = none → atKey xs k = none)
  | _, _, .nil => ⟨fun d h => by simp [dgetD] at h, fun _ => rfl⟩
  | _, _, .cons (a := p) (b := x) r t => by
    obtain ⟨h1, h2, h3, ⟨v, h4, h5⟩, h6⟩ := r
    obtain ⟨i1, i2⟩ := dget_rel k t
    by_cases e : D.toK p.1 = k
    · have eb : NestedKey.beq (D.toK p.1) k = true := (beq_iff _ _).mpr e
      have ex : x.1 = k := h2.trans e
      refine ⟨fun d h => ?_, fun h => ?_⟩
      · simp only [dgetD, eb, if_true, Option.some.injEq] at h
        subst h
        exact ⟨x.2, by simp [atKey, ex], v, h4, h5⟩
      · simp only [dgetD, eb, if_true] at h; cases h
    · have eb : ¬ NestedKey.beq (D.toK p.1) k = true := fun z => e ((beq_iff _ _).mp z)
      have ex : ¬ x.1 = k := fun z => e (h2.symm.trans z)
      refine ⟨fun d h => ?_, fun h => ?_⟩
      · simp only [dgetD, eb, if_false] at h
        obtain ⟨q, hq, hv⟩ := i1 d h
        exact ⟨q, by simpa [atKey, ex] using hq, hv⟩
      · simp only [dgetD, eb, if_false] at h
        simpa [atKey, ex] using i2 h
theorem dget_some {K : Kb} {W : Wd} {i : Nat} (k : NestedKey) {l : List (D × D)} {xs : List (NestedKey × Addr × Value)} (h : Paired (KVR K W i) l xs) : (atKey xs k).isSome = (dgetD k l).isSome := by
  obtain ⟨i1, i2⟩ := dget_rel k h
  cases e : dgetD k l with
  | none => rw [i2 e]; rfl
  | some d => obtain ⟨p, hp, _⟩ := i1 d e; rw [hp]; rfl
theorem paired_app {α β : Type} {F : α → β → Prop} : ∀ {l1 l2 : List α} {m1 m2 : List β}, Paired F l1 m1 → Paired F l2 m2 → Paired F (l1 ++ l2) (m1 ++ m2)
  | _, _, _, _, .nil, h => h
  | _, _, _, _, .cons r t, h => .cons r (paired_app t h)
theorem dset_rel {K : Kb} {W : Wd} {i : Nat} {kd v : D} {ka : Addr} {vv : V} {u : Value} (hk : D.isKey kd = true) (hd : DRel K W kd (.ref ka)) (hv : DRel K W v vv) (hu : RelV vv u) (hb : D.bel i v = true) {l : List (D × D)} {xs : List (NestedKey × Addr × Value)} (h : Paired (KVR K W i) l xs) :
    Paired (KVR K W i) (dsetD kd v l) (storedH xs (D.toK kd) ka u) := by
  unfold dsetD storedH
  rw [dget_some (D.toK kd) h]
  cases (dgetD (D.toK kd) l).isSome with
  | false =>
    simp only [Bool.false_eq_true, if_false]
    exact paired_app h (.cons ⟨hk, rfl, hd, ⟨vv, hv, hu⟩, hb⟩ .nil)
  | true =>
    simp only [if_true]
    have key : ∀ {l : List (D × D)} {xs : List (NestedKey × Addr × Value)}, Paired (KVR K W i) l xs → Paired (KVR K W i) (l.map fun p => if NestedKey.beq (D.toK p.1) (D.toK kd) = true then (p.1, v) else p) (xs.map (putAt (D.toK kd) u)) := by
      intro l xs h
      induction h with
      | nil => exact .nil
      | @cons p x l' xs' r t ih =>
        simp only [List.map_cons]
        refine .cons ?_ ih
        obtain ⟨h1, h2, h3, h4, h6⟩ := r
        by_cases e : D.toK p.1 = D.toK kd
        · rw [if_pos ((beq_iff _ _).mpr e)]
          have : putAt (D.toK kd) u x = (x.1, x.2.1, u) := by simp [putAt, h2, e]
          rw [this]
          exact ⟨h1, h2, h3, ⟨vv, hv, hu⟩, hb⟩
        · rw [if_neg fun z => e ((beq_iff _ _).mp z)]
          have : putAt (D.toK kd) u x = x := by simp [putAt, h2, e]
          rw [this]
          exact ⟨h1, h2, h3, h4, h6⟩
    exact key h
section
variable {X : Cx} {pins : List (Addr × Obj)} {σ : L2.St} {H : Hp} {s : Shared} {mu : Mu} {M : Mem} {j : Nat} {a : Addr} {l : List (D × D)}
theorem dct_at (I : Inv X pins σ H s) (mr : MRel (kb X) ⟨H, mu⟩ M) (ha : mu.l[j]? = some a) {lk : Bool} (e : M[j]? = some (.dct lk l)) : ∃ xs, LkH ⟨H, mu⟩ a lk (DctO X.prog X.w a xs) ∧ s.heap.DictOfH (nestedKind X.prog X.w) a xs ∧ xs.length ≤ sizeLine ∧ (a == sysModules) = false ∧ Paired (KVR (kb X) ⟨H, mu⟩ j) l xs := by
  obtain ⟨xs, h1, h2, h3, h4, h5⟩ := mr.obj j a _ ha e
  refine ⟨xs, h1, ?_, h3, h4, h5⟩
  obtain ⟨o, es, ep, g1, g2, g3, g4⟩ := (Rd.ok h1.rd I.hok).1
  refine ⟨o, es, ep, g1, g2, g3, g4, ?_, h2⟩
  have key : ∀ {l : List (D × D)} {xs : List (NestedKey × Addr × Value)}, Paired (KVR (kb X) ⟨H, mu⟩ j) l xs → ∀ x ∈ xs, (nestedKind X.prog X.w).is s.heap x.1 x.2.1 := by
    intro l xs h
    induction h with
    | nil => intro x hx; cases hx
    | @cons p x l' xs' r t ih =>
      intro y hy
      rcases List.mem_cons.mp hy with rfl | hy
      · obtain ⟨q1, q2, q3, _, _⟩ := r
        obtain ⟨b, e1, e2, e3⟩ := isKey_is I q1 q3 (u := .ref y.2.1) rfl
        cases e1
        rw [q2]
        exact e3
      · exact ih y hy
  exact key h5
theorem dct_new {P : Program} {w : World} {H' : Hp} {h' : Heap} {xs : List (NestedKey × Addr × Value)} (d : h'.DictOfH (nestedKind P w) a xs) : ObjOk P w H' h' a (DctO P w a xs) := by
  obtain ⟨o, es, ep, g1, g2, g3, g4, _, _⟩ := d
  refine ⟨⟨o, es, ep, g1, g2, g3, g4⟩, ⟨o, g1⟩, fun h1 h2 p k => ?_⟩
  obtain ⟨o, es, ep, g1, g2, g3, g4⟩ := p
  exact ⟨o, es, ep, k o g1, g2, g3, g4⟩
theorem room_k {A : Around} (hu : A.units + 65 < cLine) : (nestedKind X.prog X.w).room A.in1 := by
  show A.units + 1 + 8 < cLine
  omega
/-! ### dicts whose keys are numbers and texts -/
def dkget (k : Key) (l : List (D × D)) : Option D := (l.find? fun p => decide (D.key1 p.1 = some k)).map (·.2)
def dkset (k : Key) (kd v : D) (l : List (D × D)) : List (D × D) := if (l.any fun p => decide (D.key1 p.1 = some k)) = true then l.map fun p => if D.key1 p.1 = some k then (p.1, v) else p else l ++ [(kd, v)]
theorem key1_kV {K : Kb} {W : Wd} {d : D} {v : V} {k : Key} (h : D.key1 d = some k) (r : DRel K W d v) : v = kV k := by
  cases d with
  | int i => cases h; exact r
  | str x => cases h; exact r
  | _ => cases h
theorem dkget_rel {K : Kb} {W : Wd} {i : Nat} (k : Key) : ∀ {l : List (D × D)} {kvs : List (Key × V)}, Paired (KSR K W i) l kvs → (∀ d, dkget k l = some d → ∃ v, valV kvs k = some v ∧ DRel K W d v) ∧ (dkget k l = none → valV kvs k = none)
  | _, _, .nil => ⟨fun d h => by simp [dkget] at h, fun _ => rfl⟩
  | _, _, .cons (a := p) (b := x) (l₁ := l) (l₂ := kvs) r t => by
    obtain ⟨h1, h2, h3⟩ := r
    by_cases e : x.1 = k
    · have e1 : D.key1 p.1 = some k := by rw [h1, e]
      rw [valV_pos e]
      refine ⟨fun d h => ?_, fun h => ?_⟩
      · simp only [dkget, List.find?_cons, e1, decide_true, Option.map_some, Option.some.injEq] at h
        subst h
        exact ⟨x.2, rfl, h2⟩
      · simp [dkget, List.find?_cons, e1] at h
    · have e1 : ¬ D.key1 p.1 = some k := by rw [h1]; simpa using e
      rw [valV_neg e]
      have := dkget_rel k t
      simp only [dkget, List.find?_cons, e1, decide_false] at this ⊢
      exact this
theorem dkget_some {K : Kb} {W : Wd} {i : Nat} (k : Key) {l : List (D × D)} {kvs : List (Key × V)} (h : Paired (KSR K W i) l kvs) : (valV kvs k).isSome = (dkget k l).isSome := by
  obtain ⟨h1, h2⟩ := dkget_rel k h
  cases e : dkget k l with
  | none => rw [h2 e]; rfl
  | some d => obtain ⟨v, hv, _⟩ := h1 d e; rw [hv]; rfl
theorem dkany {K : Kb} {W : Wd} {i : Nat} (k : Key) : ∀ {l : List (D × D)} {kvs : List (Key × V)}, Paired (KSR K W i) l kvs → (l.any fun p => decide (D.key1 p.1 = some k)) = kvs.any fun kv => decide (kv.1 = k)
  | _, _, .nil => rfl
  | _, _, .cons (a := p) (b := x) r t => by
    simp only [List.any_cons, dkany k t, r.1, Option.some.injEq]
theorem dkset_rel {K : Kb} {W : Wd} {i : Nat} {kd v : D} {vv : V} {k : Key} (hk : D.key1 kd = some k) (hv : DRel K W v vv) (hb : D.bel i v = true) {l : List (D × D)} {kvs : List (Key × V)} (h : Paired (KSR K W i) l kvs) : Paired (KSR K W i) (dkset k kd v l) (putK kvs k vv) := by
  unfold dkset putK
  rw [dkany k h]
  split
  · have key : ∀ {l : List (D × D)} {kvs : List (Key × V)}, Paired (KSR K W i) l kvs → Paired (KSR K W i) (l.map fun p => if D.key1 p.1 = some k then (p.1, v) else p) (kvs.map fun kv => if kv.1 = k then (kv.1, vv) else kv) := by
      intro l kvs h
      induction h with
      | nil => exact .nil
      | @cons p x l kvs r t ih =>
        refine .cons ?_ ih
        obtain ⟨h1, h2, h3⟩ := r
        show KSR K W i (if D.key1 p.1 = some k then (p.1, v) else p) (if x.1 = k then (x.1, vv) else x)
        by_cases e : x.1 = k
        · have e1 : D.key1 p.1 = some k := by rw [h1, e]
          rw [if_pos e1, if_pos e]
          exact ⟨h1, hv, hb⟩
        · have e1 : ¬ D.key1 p.1 = some k := by rw [h1]; simpa using e
          rw [if_neg e1, if_neg e]
          exact ⟨h1, h2, h3⟩
    exact key h
  · exact paired_app h (.cons ⟨hk, hv, hb⟩ .nil)
theorem dks_at {lk : Bool} (mr : MRel (kb X) ⟨H, mu⟩ M) (ha : mu.l[j]? = some a) (e : M[j]? = some (.dks lk l)) : ∃ kvs, LkH ⟨H, mu⟩ a lk (.dK kvs) ∧ Paired (KSR (kb X) ⟨H, mu⟩ j) l kvs := mr.obj j a _ ha e
end
end RI

namespace RI
open PySem PySem.Spec PyProof.Rows L2
variable {T : Tb} {C : CC}

/-- a dict -/
def dctD (M : Mem) : D → Option (List (D × D))
  | .obj i => match M[i]? with
    | some (.dct _ l) => some l
    | _ => none
  | _ => none
def dksD (M : Mem) : D → Option (List (D × D))
  | .obj i => match M[i]? with
    | some (.dks _ l) => some l
    | _ => none
  | _ => none
theorem dctD_obj {M : Mem} {d : D} {l : List (D × D)} (h : dctD M d = some l) : ∃ j lk, d = .obj j ∧ M[j]? = some (.dct lk l) := by
  cases d with
  | obj j =>
    simp only [dctD] at h
    split at h
    · rename_i lk l' e; exact ⟨j, lk, rfl, by rw [e]; cases h; rfl⟩
    · cases h
  | _ => simp [dctD] at h
theorem dksD_obj {M : Mem} {d : D} {l : List (D × D)} (h : dksD M d = some l) : ∃ j lk, d = .obj j ∧ M[j]? = some (.dks lk l) := by
  cases d with
  | obj j =>
    simp only [dksD] at h
    split at h
    · rename_i lk l' e; exact ⟨j, lk, rfl, by rw [e]; cases h; rfl⟩
    · cases h
  | _ => simp [dksD] at h
theorem dctD_none {M : Mem} {d : D} {l : List D} (h : seqD M d = some l) : dctD M d = none := by
  cases d with
  | obj j =>
    simp only [seqD] at h
    simp only [dctD]
    split at h
    · rename_i l' e; rw [e]
    · cases h
  | _ => rfl
theorem dksD_none {M : Mem} {d : D} {l : List D} (h : seqD M d = some l) : dksD M d = none := by
  cases d with
  | obj j =>
    simp only [seqD] at h
    simp only [dksD]
    split at h
    · rename_i l' e; rw [e]
    · cases h
  | _ => rfl
/-! ### x in a list or tuple -/
def inK (neg : Bool) (x : D) (l : List (D × D)) (M : Mem) : Res D := if D.isKey x = true then .ok (.bl (if neg then !(dgetD (D.toK x) l).isSome else (dgetD (D.toK x) l).isSome)) M else .bad
def inS (neg : Bool) (x y : D) (M : Mem) : Res D := match seqD M y with
  | some l => if (D.noObj x && D.noObjs l && SeqAt.shaped (D.toP x) && PyData.canLayAll0 (D.toPs l)) = true then
      .ok (.bl (if neg then !(D.toPs l).any fun z => PyData.eqv z (D.toP x) else (D.toPs l).any fun z => PyData.eqv z (D.toP x))) M else .bad
  | none => .bad
def inKs (neg : Bool) (x : D) (l : List (D × D)) (M : Mem) : Res D := match D.key1 x with
  | some k => .ok (.bl (if neg then !(dkget k l).isSome else (dkget k l).isSome)) M
  | none => .bad
def inD (neg : Bool) (x y : D) (M : Mem) : Res D := match dctD M y with
  | some l => inK neg x l M
  | none => match dksD M y with
    | some l => inKs neg x l M
    | none => inS neg x y M
theorem seqD_dp {K : Kb} {W : Wd} {M : Mem} {d : D} {l : List D} {v : V} (m : MRel K W M) (h : seqD M d = some l) (b : D.noObjs l = true) (r : DRel K W d v) : Dp K.K W.H v (.list (D.toPs l)) ∨ Dp K.K W.H v (.tuple (D.toPs l)) := by
  obtain ⟨a, xs, rfl, q, dr⟩ := seqD_at m h r
  rcases q with q | q
  · exact .inl (.lst q (D.dps l xs b dr))
  · exact .inr (.tup q (D.dps l xs b dr))
theorem room_in {A : Around} {d : PyData} {n : Nat} (h : SeqAt.shaped d = true) (hu : A.units + 65 < cLine) : A.units + 1 + min n d.depth < cLine := by
  have h1 := SeqAt.depth_of_shaped h
  have h2 : min n d.depth ≤ d.depth := Nat.min_le_right _ _
  omega
theorem or_in {X : Cx} (hu : X.A.units + 65 < cLine) : OpR X (compareOp .In) (rB (kb X) (inD false)) := by
  intro pins s σ H x y v u Q I rx ry h
  obtain ⟨mu, M, dx, dy, mr, hx, hy, sat⟩ := h
  unfold inD at sat
  split at sat
  · rename_i l e
    obtain ⟨j, lk, rfl, ej⟩ := dctD_obj e
    obtain ⟨hk, sat⟩ := sat_ite sat
    simp only [DRel] at hy
    obtain ⟨a, rfl, ha⟩ := hy
    cases ry
    obtain ⟨ka, rfl, rfl, hki⟩ := isKey_is I hk hx rx
    obtain ⟨xs, h1, hd, h3, h4, h5⟩ := dct_at I mr ha ej
    have q := sat.ok mr _ rfl
    rw [← dget_some (D.toK dx) h5] at q
    exact wpAny_in_heap (room_k hu) hki h4 hd ⟨.bl _, H, I.tok _, rfl, q⟩
  split at sat
  · rename_i l e
    obtain ⟨j, lk, rfl, ej⟩ := dksD_obj e
    unfold inKs at sat
    split at sat
    · rename_i k ek
      simp only [DRel] at hy
      obtain ⟨a, rfl, ha⟩ := hy
      cases ry
      have hxk := key1_kV ek hx
      obtain ⟨kvs, g1, g2⟩ := dks_at mr ha ej
      have q := sat.ok mr _ rfl
      rw [← dkget_some k g2] at q
      exact d_in (by omega) I (.inl ⟨kvs, k, g1.rd, hxk, rfl⟩) rx fun s' I' => ⟨.bl _, H, I', rfl, q⟩
    · exact sat.elim
  unfold inS at sat
  split at sat
  · rename_i l e
    obtain ⟨hc, sat⟩ := sat_ite sat
    simp only [Bool.and_eq_true] at hc
    obtain ⟨⟨⟨h1, h2⟩, h3⟩, h4⟩ := hc
    obtain ⟨as, r1⟩ := Dp.reads I _ x v (D.dp dx x h1 hx) rx
    have q := sat.ok mr _ rfl
    rcases seqD_dp mr e h2 hy with hd | hd
    · obtain ⟨bs, r2⟩ := Dp.reads I _ y u hd ry
      exact SeqAt.in_list_reads r2 r1 h4 (SeqAt.canLay_of_shaped h3) (room_in h3 hu) ⟨.bl _, H, I, rfl, q⟩
    · obtain ⟨bs, r2⟩ := Dp.reads I _ y u hd ry
      exact SeqAt.in_tuple_reads r2 r1 h4 (SeqAt.canLay_of_shaped h3) (room_in h3 hu) ⟨.bl _, H, I, rfl, q⟩
  · exact sat.elim
theorem or_notin {X : Cx} (hu : X.A.units + 65 < cLine) : OpR X (compareOp .NotIn) (rB (kb X) (inD true)) := by
  intro pins s σ H x y v u Q I rx ry h
  obtain ⟨mu, M, dx, dy, mr, hx, hy, sat⟩ := h
  unfold inD at sat
  split at sat
  · rename_i l e
    obtain ⟨j, lk, rfl, ej⟩ := dctD_obj e
    obtain ⟨hk, sat⟩ := sat_ite sat
    simp only [DRel] at hy
    obtain ⟨a, rfl, ha⟩ := hy
    cases ry
    obtain ⟨ka, rfl, rfl, hki⟩ := isKey_is I hk hx rx
    obtain ⟨xs, h1, hd, h3, h4, h5⟩ := dct_at I mr ha ej
    have q := sat.ok mr _ rfl
    rw [← dget_some (D.toK dx) h5] at q
    have q : Q (.bl (!(valueAt (pairsH xs) (D.toK dx)).isSome)) H := by rw [valueAt_pairsH, Option.isSome_map]; exact q
    exact notIn_keyed (room_k hu) hki h4 ⟨xs, hd, rfl⟩ ⟨.bl _, H, I.tok _, rfl, q⟩
  split at sat
  · rename_i l e
    obtain ⟨j, lk, rfl, ej⟩ := dksD_obj e
    unfold inKs at sat
    split at sat
    · rename_i k ek
      simp only [DRel] at hy
      obtain ⟨a, rfl, ha⟩ := hy
      cases ry
      have hxk := key1_kV ek hx
      obtain ⟨kvs, g1, g2⟩ := dks_at mr ha ej
      have q := sat.ok mr _ rfl
      rw [← dkget_some k g2] at q
      exact d_notIn (by omega) I (.inl ⟨kvs, k, g1.rd, hxk, rfl⟩) rx fun s' I' => ⟨.bl _, H, I', rfl, q⟩
    · exact sat.elim
  unfold inS at sat
  split at sat
  · rename_i l e
    obtain ⟨hc, sat⟩ := sat_ite sat
    simp only [Bool.and_eq_true] at hc
    obtain ⟨⟨⟨h1, h2⟩, h3⟩, h4⟩ := hc
    obtain ⟨as, r1⟩ := Dp.reads I _ x v (D.dp dx x h1 hx) rx
    have q := sat.ok mr _ rfl
    rcases seqD_dp mr e h2 hy with hd | hd
    · obtain ⟨bs, r2⟩ := Dp.reads I _ y u hd ry
      exact SeqAt.notIn_list_reads r2 r1 h4 (SeqAt.canLay_of_shaped h3) (room_in h3 hu) ⟨.bl _, H, I, rfl, q⟩
    · obtain ⟨bs, r2⟩ := Dp.reads I _ y u hd ry
      exact SeqAt.notIn_tuple_reads r2 r1 h4 (SeqAt.canLay_of_shaped h3) (room_in h3 hu) ⟨.bl _, H, I, rfl, q⟩
  · exact sat.elim

/-! ### items and slices -/
def ixT (x : D) (i : Int) (M : Mem) : Res D := match x with
  | .str z => if z.length ≤ LIM then (match atI z i with | some c => .ok (.str [c]) M | none => .bad) else .bad
  | _ => .bad
def ixS (x y : D) (M : Mem) : Res D := match y with
  | .int i => match seqD M x with
    | some l => match atI l i with
      | some d => .ok d M
      | none => .bad
    | none => ixT x i M
  | _ => .bad
def ixK (l : List (D × D)) (y : D) (M : Mem) : Res D := if D.isKey y = true then (match dgetD (D.toK y) l with | some d => .ok d M | none => .bad) else .bad
def ixKs (l : List (D × D)) (y : D) (M : Mem) : Res D := match D.key1 y with
  | some k => (match dkget k l with | some d => .ok d M | none => .bad)
  | none => .bad
def ixD (x y : D) (M : Mem) : Res D := match dctD M x with
  | some l => ixK l y M
  | none => match dksD M x with
    | some l => ixKs l y M
    | none => ixS x y M
theorem atI_rel {K : Kb} {W : Wd} {l : List D} {xs : List V} {i : Int} {d : D} (r : DRels K W l xs) (h : atI l i = some d) : ∃ v, atI xs i = some v ∧ DRel K W d v := by
  unfold atI at h ⊢
  rw [← r.length]
  cases e : ixN l.length i with
  | none => rw [e] at h; cases h
  | some j =>
    rw [e] at h
    simp only [Option.bind_some] at h ⊢
    exact r.get h
theorem ixr_at {X : Cx} (hu : X.A.units + 65 < cLine) : IxR X (rB (kb X) ixD) := by
  intro value slice pins s σ H x y v u Q I rx ry h hsub
  obtain ⟨mu, M, dx, dy, mr, hx, hy, sat⟩ := h
  unfold ixD at sat
  split at sat
  · rename_i l e
    obtain ⟨j, lk, rfl, ej⟩ := dctD_obj e
    obtain ⟨hk, sat⟩ := sat_ite sat
    simp only [DRel] at hx
    obtain ⟨a, rfl, ha⟩ := hx
    cases rx
    obtain ⟨ka, rfl, rfl, hki⟩ := isKey_is I hk hy ry
    obtain ⟨xs, h1, hd, h3, h4, h5⟩ := dct_at I mr ha ej
    split at sat
    · rename_i d ed
      obtain ⟨p, hp, v, dv, rv⟩ := (dget_rel (D.toK dy) h5).1 d ed
      exact tail_any hd.typeIs slot_dict_getitem.lookup (wpAny_getItem_heap (room_k hu) hki hd hp ⟨v, H, I.tok _, rv, sat.ok mr _ dv⟩) hsub
    · exact sat.elim
  split at sat
  · rename_i l e
    obtain ⟨j, lk, rfl, ej⟩ := dksD_obj e
    unfold ixKs at sat
    split at sat
    · rename_i k ek
      simp only [DRel] at hx
      obtain ⟨a, rfl, ha⟩ := hx
      cases rx
      have hyk := key1_kV ek hy
      obtain ⟨kvs, g1, g2⟩ := dks_at mr ha ej
      split at sat
      · rename_i d ed
        obtain ⟨v, hv, dv⟩ := (dkget_rel k g2).1 d ed
        have g : DGet H a y (some v) := .inl ⟨kvs, k, g1.rd, hyk, hv.symm⟩
        exact tail_any (dict_typeIs I g) slot_dict_getitem.lookup (d_getItem (by omega) I g ry fun w' s3 I3 rw' => ⟨v, H, I3, rw', sat.ok mr _ dv⟩) hsub
      · exact sat.elim
    · exact sat.elim
  unfold ixS at sat
  split at sat
  · rename_i i
    split at sat
    · rename_i l e
      split at sat
      · rename_i d ed
        cases (show y = _ from hy)
        obtain ⟨a, xs, rfl, q, dr⟩ := seqD_at mr e hx
        obtain ⟨w, ew, dw⟩ := atI_rel dr ed
        refine ix_seq value slice pins s σ H _ _ v u Q I rx ry ?_ hsub
        rcases q with q | q
        · exact .inl ⟨a, xs, i, w, rfl, rfl, q, ew, sat.ok mr _ dw⟩
        · exact .inr (.inl ⟨a, xs, i, w, rfl, rfl, q, ew, sat.ok mr _ dw⟩)
      · exact sat.elim
    · unfold ixT at sat
      split at sat
      · rename_i z
        obtain ⟨hz, sat⟩ := sat_ite sat
        split at sat
        · rename_i c ec
          cases (show y = _ from hy); cases (show x = _ from hx)
          refine ix_seq value slice pins s σ H _ _ v u Q I rx ry (.inr (.inr ⟨_, i, c, rfl, rfl, ?_, by simpa using ec, ?_⟩)) hsub
          · rw [str_len, ← lim_eq]; exact hz
          · exact sat.ok mr _ rfl
        · exact sat.elim
      · exact sat.elim
  · exact sat.elim
def noSlice : Expr → Bool
  | .Slice .. => false
  | _ => true
theorem noSlice_ix {b : Expr} (h : noSlice b = true) : PlainIx b := by
  intro o i
  cases b <;> first | rfl | cases h
theorem ok_ix {a b : Expr} {pos : Pos} {ma mb : ME} (hs : noSlice b = true) (ha : OkE T C a ma) (hb : OkE T C b mb) : OkE T C (.Subscript a b pos) (mB ixD ma mb) := by
  intro n X wx h
  exact PE.of (pe_ix (ixr_at (by have := h.un; omega)) (ha n X wx h) (hb n X wx h) (noSlice_ix hs)) fun s H Q q => tOp_of q
def cutD (l : List D) (lo hi : Option Int) : List D := (l.drop (HT.sIx l.length 0 lo)).take (HT.sIx l.length l.length hi - HT.sIx l.length 0 lo)
theorem cut_rel {K : Kb} {W : Wd} {l : List D} {xs : List V} (r : DRels K W l xs) (lo hi : Option Int) : DRels K W (cutD l lo hi) (cutV xs lo hi) := by
  unfold cutD cutV
  rw [r.length]
  exact (r.drop _).take _
def slD (x : D) (lo hi : Option Int) (M : Mem) : Res D := match x with
  | .tup l => .ok (.tup (cutD l lo hi)) M
  | x => match lstD M x with
    | some l => .ok (.lst (cutD l lo hi)) M
    | none => .bad
def rSlD (K : Kb) : V → Option Int → Option Int → Hp → VK → Prop := fun x lo hi H Q => ∃ mu M dx, MRel K ⟨H, mu⟩ M ∧ DRel K ⟨H, mu⟩ dx x ∧ Sat K.no ⟨H, mu⟩ (slD dx lo hi M) (PV K Q)
theorem cut_whole {α : Type} (l : List α) (lo hi : Option Int) (h : HT.sIx l.length 0 lo = 0 ∧ HT.sIx l.length l.length hi = l.length) : (l.drop (HT.sIx l.length 0 lo)).take (HT.sIx l.length l.length hi - HT.sIx l.length 0 lo) = l := by
  rw [h.1, h.2]; simp
theorem slr_d {X : Cx} : SlR X (rSlD (kb X)) := by
  intro pins s σ H x v vl vu lo hi sl Q I rx hs pl pu h
  obtain ⟨mu, M, dx, mr, hx, sat⟩ := h
  unfold slD at sat
  split at sat
  · rename_i l
    simp only [DRel] at hx
    obtain ⟨a, xs, rfl, t, r⟩ := hx
    refine sl_tupA pins s σ H _ v vl vu lo hi sl Q I rx hs pl pu ⟨a, xs, rfl, t.sq, fun hw => ?_, fun _ p hp => new_tup mr (cut_rel r lo hi) sat hp⟩
    refine sat.ok mr _ ?_
    have e : cutD l lo hi = l := cut_whole l lo hi (by rw [r.length]; exact hw)
    rw [e]
    simp only [DRel]
    exact ⟨a, xs, rfl, t, r⟩
  · split at sat
    · rename_i l e
      obtain ⟨a, xs, rfl, q, r⟩ := lstD_at mr e hx
      exact sl_list pins s σ H _ v vl vu lo hi sl Q I rx hs pl pu ⟨a, xs, rfl, q, fun p hp => new_lst mr (cut_rel r lo hi) sat hp⟩
    · exact sat.elim
abbrev MO' := FT → EV → Mem → Res (Option Int)
def rdO (K : Kx) (F : FT) (m : MO') : TO := fun s H Q => At K s H fun mu r M => Sat (K.at s) ⟨H, mu⟩ (m F r M) (fun o _ W => Q o W.H)
def mNoPart : MO' := fun _ _ M => .ok none M
def mPart (m : ME) : MO' := fun F r M => (m F r M).bind fun d M1 => match d with
  | .int i => .ok (some i) M1
  | _ => .bad
def OkO (T : Tb) (C : CC) (e : Option Expr) (m : MO') : Prop := ∀ n X wx, CxOk T n C X wx → PO X e (rdO (kx X wx) (callF T n) m)
theorem PO.of {X : Cx} {e : Option Expr} {t t' : TO} (h : PO X e t) (f : ∀ s H Q, t' s H Q → t s H Q) : PO X e t' := ⟨fun pins s σ H Q I q => h.run pins s σ H Q I (f σ H Q q)⟩
theorem ok_nopart : OkO T C none mNoPart := by
  intro n X wx h
  refine PO.of po_none fun s H Q q => ?_
  obtain ⟨mu, M, r, mr, sr, sat⟩ := q
  exact sat.ok mr
theorem ok_part {e : Expr} {m : ME} (he : OkE T C e m) : OkO T C (some e) (mPart m) := by
  intro n X wx h
  refine PO.of (po_some (he n X wx h)) fun s H Q q => ?_
  obtain ⟨mu, M, r, mr, sr, sat⟩ := q
  refine ⟨mu, M, r, mr, sr, sat.bind.imp fun d M1 W1 l1 m1 s1 v dv => ?_⟩
  cases d with
  | int i => cases (show v = _ from dv); exact ⟨i, rfl, s1.ok m1⟩
  | _ => exact s1.elim
def mSl (m : ME) (lo hi : MO') : ME := fun F r M => (m F r M).bind fun x M1 => (lo F r M1).bind fun i M2 => (hi F r M2).bind fun j M3 => (slD x i j M3).noX
theorem ok_slice {e : Expr} {lo hi : Option Expr} {p2 pos : Pos} {m : ME} {ml mh : MO'} (he : OkE T C e m) (hl : OkO T C lo ml) (hh : OkO T C hi mh) : OkE T C (.Subscript e (.Slice lo hi none p2) pos) (mSl m ml mh) := by
  intro n X wx h
  refine PE.of (pe_slice slr_d (he n X wx h) (hl n X wx h) (hh n X wx h)) fun s H Q q => ?_
  obtain ⟨mu, M, r, mr, sr, sat⟩ := q
  refine ⟨mu, M, r, mr, sr, sat.bind.imp fun d M1 W1 l1 m1 s1 v dv => ?_⟩
  refine ⟨W1.mu, M1, r, m1, sr.le l1, s1.bind.imp fun i M2 W2 l2 m2 s2 => ?_⟩
  refine ⟨W2.mu, M2, r, m2, sr.le (l1.trans l2), s2.bind.imp fun j M3 W3 l3 m3 s3 => ?_⟩
  exact ⟨W3.mu, M3, d, m3, DRel.le (l2.trans l3) d v dv, s3.noX⟩

/-! ### tests -/
def mAnd (a b : MT) : MT := fun F r M => (a F r M).bind fun c M1 => if c then b F r M1 else .ok false M1
def mOr (a b : MT) : MT := fun F r M => (a F r M).bind fun c M1 => if c then .ok true M1 else b F r M1
def mNot (a : MT) : MT := fun F r M => (a F r M).bind fun c M1 => .ok (!c) M1
def OkW (T : Tb) (C : CC) (e : Expr) (m : MT) : Prop := ∀ n X wx, CxOk T n C X wx → PW X e (rdT (kx X wx) (callF T n) m)
theorem PW.of {X : Cx} {e : Expr} {t t' : TT} (h : PW X e t) (f : ∀ s H Q, t' s H Q → t s H Q) : PW X e t' := ⟨fun wh pins s σ H Q I q => h.run wh pins s σ H Q I (f σ H Q q)⟩
theorem ok_wt {e : Expr} {m : MT} (h : OkW T C e m) : OkT T C e m := fun n X wx q => (h n X wx q).pt
theorem ok_and1 {a : Expr} {pos : Pos} {m : MT} (h : OkT T C a m) : OkW T C (.BoolOp .And [a] pos) m := fun n X wx q => pw_and1 (h n X wx q)
theorem ok_or1 {a : Expr} {pos : Pos} {m : MT} (h : OkT T C a m) : OkW T C (.BoolOp .Or [a] pos) m := fun n X wx q => pw_or1 (h n X wx q)
theorem ok_and {a b : Expr} {r : List Expr} {pos : Pos} {m m' : MT} (h : OkT T C a m) (h' : OkW T C (.BoolOp .And (b :: r) pos) m') : OkW T C (.BoolOp .And (a :: b :: r) pos) (mAnd m m') := by
  intro n X wx q
  refine PW.of (pw_and (h n X wx q) (h' n X wx q)) fun s H Q w => ?_
  obtain ⟨mu, M, r, mr, sr, sat⟩ := w
  refine ⟨mu, M, r, mr, sr, sat.bind.imp fun c M1 W1 l1 m1 s1 => ?_⟩
  cases c with
  | true => exact iteT ⟨W1.mu, M1, r, m1, sr.le l1, s1⟩
  | false => exact iteF (Sat.ok (a := false) s1 m1)
theorem ok_or {a b : Expr} {r : List Expr} {pos : Pos} {m m' : MT} (h : OkT T C a m) (h' : OkW T C (.BoolOp .Or (b :: r) pos) m') : OkW T C (.BoolOp .Or (a :: b :: r) pos) (mOr m m') := by
  intro n X wx q
  refine PW.of (pw_or (h n X wx q) (h' n X wx q)) fun s H Q w => ?_
  obtain ⟨mu, M, r, mr, sr, sat⟩ := w
  refine ⟨mu, M, r, mr, sr, sat.bind.imp fun c M1 W1 l1 m1 s1 => ?_⟩
  cases c with
  | true => exact iteT (Sat.ok (a := true) s1 m1)
  | false => exact iteF ⟨W1.mu, M1, r, m1, sr.le l1, s1⟩
theorem ok_tnot {a : Expr} {pos : Pos} {m : MT} (h : OkT T C a m) : OkT T C (.UnaryOp .Not a pos) (mNot m) := by
  intro n X wx q
  refine PT.of (pt_not (h n X wx q)) fun s H Q w => ?_
  obtain ⟨mu, M, r, mr, sr, sat⟩ := w
  exact ⟨mu, M, r, mr, sr, sat.bind.imp fun c M1 W1 l1 m1 s1 => Sat.ok s1 m1⟩
/-- as values (bools) -/
def mAndV (a b : ME) : ME := fun F r M => (mTB a F r M).bind fun c M1 => if c then b F r M1 else .ok (.bl false) M1
def mOrV (a b : ME) : ME := fun F r M => (mTB a F r M).bind fun c M1 => if c then .ok (.bl true) M1 else b F r M1
def mNotV (a : ME) : ME := fun F r M => (mTB a F r M).bind fun c M1 => .ok (.bl (!c)) M1
theorem ok_one {op} {a : Expr} {pos : Pos} {m : ME} (h : OkE T C a m) : OkE T C (.BoolOp op [a] pos) m := fun n X wx q => pe_one (h n X wx q)
theorem mTB_at {K : Kx} {F : FT} {m : ME} {r : EV} {M : Mem} {W : Wd} {P : Bool → Mem → Wd → Prop} (h : Sat K W (mTB m F r M) P) : Sat K W (m F r M) (fun d M1 W1 => ∃ c, d = .bl c ∧ P c M1 W1) := by
  refine h.bind.imp fun d M1 W1 l1 m1 s1 => ?_
  cases d with
  | bl c => exact ⟨c, rfl, s1.ok m1⟩
  | _ => exact s1.elim
theorem ok_andV {a b : Expr} {r : List Expr} {pos : Pos} {m m' : ME} (h : OkE T C a m) (h' : OkE T C (.BoolOp .And (b :: r) pos) m') : OkE T C (.BoolOp .And (a :: b :: r) pos) (mAndV m m') := by
  intro n X wx q
  refine PE.of (pe_and (h n X wx q) (h' n X wx q)) fun s H Q w => ?_
  obtain ⟨mu, M, r, mr, sr, sat⟩ := w
  refine ⟨mu, M, r, mr, sr, (mTB_at sat.bind).imp fun d M1 W1 l1 m1 s1 v dv => ?_⟩
  obtain ⟨c, rfl, s1⟩ := s1
  cases (show v = _ from dv)
  refine ⟨c, rfl, ?_⟩
  cases c with
  | true => exact iteT ⟨W1.mu, M1, r, m1, sr.le l1, s1⟩
  | false => exact iteF (Sat.ok (show Sat _ _ (Res.ok (D.bl false) M1) _ from s1) m1 _ rfl)
theorem ok_orV {a b : Expr} {r : List Expr} {pos : Pos} {m m' : ME} (h : OkE T C a m) (h' : OkE T C (.BoolOp .Or (b :: r) pos) m') : OkE T C (.BoolOp .Or (a :: b :: r) pos) (mOrV m m') := by
  intro n X wx q
  refine PE.of (pe_or (h n X wx q) (h' n X wx q)) fun s H Q w => ?_
  obtain ⟨mu, M, r, mr, sr, sat⟩ := w
  refine ⟨mu, M, r, mr, sr, (mTB_at sat.bind).imp fun d M1 W1 l1 m1 s1 v dv => ?_⟩
  obtain ⟨c, rfl, s1⟩ := s1
  cases (show v = _ from dv)
  refine ⟨c, rfl, ?_⟩
  cases c with
  | true => exact iteT (Sat.ok (show Sat _ _ (Res.ok (D.bl true) M1) _ from s1) m1 _ rfl)
  | false => exact iteF ⟨W1.mu, M1, r, m1, sr.le l1, s1⟩
theorem ok_notV {a : Expr} {pos : Pos} {m : ME} (h : OkE T C a m) : OkE T C (.UnaryOp .Not a pos) (mNotV m) := by
  intro n X wx q
  refine PE.of (pe_not (h n X wx q)) fun s H Q w => ?_
  obtain ⟨mu, M, r, mr, sr, sat⟩ := w
  refine ⟨mu, M, r, mr, sr, (mTB_at sat.bind).imp fun d M1 W1 l1 m1 s1 v dv => ?_⟩
  obtain ⟨c, rfl, s1⟩ := s1
  cases (show v = _ from dv)
  exact ⟨c, rfl, s1.ok m1 _ rfl⟩
def mIf (c : MT) (a b : ME) : ME := fun F r M => (c F r M).bind fun k M1 => if k then a F r M1 else b F r M1
theorem ok_if {c a b : Expr} {pos : Pos} {mc : MT} {ma mb : ME} (hc : OkT T C c mc) (ha : OkE T C a ma) (hb : OkE T C b mb) : OkE T C (.IfExp c a b pos) (mIf mc ma mb) := by
  intro n X wx q
  refine PE.of (pe_ifExp (hc n X wx q) (ha n X wx q) (hb n X wx q)) fun s H Q w => ?_
  obtain ⟨mu, M, r, mr, sr, sat⟩ := w
  refine ⟨mu, M, r, mr, sr, sat.bind.imp fun k M1 W1 l1 m1 s1 => ?_⟩
  cases k with
  | true => exact iteT ⟨W1.mu, M1, r, m1, sr.le l1, s1⟩
  | false => exact iteF ⟨W1.mu, M1, r, m1, sr.le l1, s1⟩
/-- truth of a value of any kind -/
def truD (d : D) (M : Mem) : Res Bool := match d with
  | .non => .ok false M
  | .bl b => .ok b M
  | .int i => .ok (i != 0) M
  | d => match seqD M d with
    | some l => .ok (!l.isEmpty) M
    | none => .bad
def mTru (m : ME) : MT := fun F r M => (m F r M).bind fun d M1 => truD d M1
def plainTest : Expr → Bool
  | .UnaryOp .Not _ _ => false
  | .BoolOp .. => false
  | .IfExp .. => false
  | .Compare .. => false
  | _ => true
theorem plain_isTrue {e : Expr} {env : Env} (h : plainTest e = true) : ∀ whole, isTrue e env whole = (do let v ← whole; standAt e.pos; holding [v] (truthy v)) := by
  intro whole
  cases e <;> first | rfl | cases h | skip
  rename_i op x p
  cases op <;> first | rfl | cases h
theorem isEmpty_rel {K : Kb} {W : Wd} {l : List D} {xs : List V} (r : DRels K W l xs) : xs.isEmpty = l.isEmpty := by
  have := r.length
  cases l <;> cases xs <;> simp at this ⊢
theorem tru_of {K : Kx} {W : Wd} {M : Mem} {d : D} {v : V} {P : Bool → Mem → Wd → Prop} (m : MRel K W M) (h : Sat K W (truD d M) P) (r : DRel K W d v) : ∃ k, TruV K.b.K v W.H k ∧ P k M W := by
  unfold truD at h
  split at h
  · cases (show v = _ from r); exact ⟨false, rfl, h.ok m⟩
  · cases (show v = _ from r); exact ⟨_, rfl, h.ok m⟩
  · cases (show v = _ from r); exact ⟨_, rfl, h.ok m⟩
  · split at h
    · rename_i l e
      obtain ⟨a, xs, rfl, q, dr⟩ := seqD_at m e r
      refine ⟨_, ?_, h.ok m⟩
      rcases q with q | q
      · exact .inl ⟨xs, q, by rw [isEmpty_rel dr]⟩
      · exact .inr (.inl ⟨xs, q, by rw [isEmpty_rel dr]⟩)
    · exact h.elim
theorem ok_tru {e : Expr} {m : ME} (hp : plainTest e = true) (h : OkE T C e m) : OkT T C e (mTru m) := by
  intro n X wx q
  refine PT.of (pt_truth (h n X wx q) (plain_isTrue hp)) fun s H Q w => ?_
  obtain ⟨mu, M, r, mr, sr, sat⟩ := w
  refine ⟨mu, M, r, mr, sr, sat.bind.imp fun d M1 W1 l1 m1 s1 v dv => ?_⟩
  obtain ⟨k, t, p⟩ := tru_of m1 s1 dv
  exact ⟨k, t, p⟩
end RI

namespace RI
open PySem PySem.Spec PyProof.Rows L2
variable {T : Tb} {C : CC}

/-! ### calls -/
theorem noStars_any {env : Env} {pos : Pos} : ∀ {es : List Expr}, es.all noStar = true → (backTo pos (starEach es env)).any (·.1) = false
  | [], _ => rfl
  | e :: es, h => by
    rw [List.all_cons, Bool.and_eq_true] at h
    rw [noStar_each h.1]
    show (false || (backTo pos (starEach es env)).any (·.1)) = false
    rw [noStars_any h.2]; rfl
theorem gl_of {n : Nat} {X : Cx} {wx : Ex → L2.St → Wd → Prop} (h : CxOk T n C X wx) {x : Str} (hg : C.sc.names.lookup x = some .globalImplicit) : Gl X x := by
  show X.env.kindOf x = _
  unfold Env.kindOf
  rw [h.sc]; exact hg
def mCall (k : Nat) (ms : MA) : ME := fun F r M => (ms F r M).bind fun ds M1 => F k ds M1
theorem callF_len {n k : Nat} {f : Fn} {ds : List D} {M : Mem} (hf : T.fns[k]? = some f) {K : Kx} {W : Wd} {P : D → Mem → Wd → Prop} (h : Sat K W (callF T n k ds M) P) : ds.length = f.ps.length := by
  cases n with
  | zero => exact h.elim
  | succ n =>
    simp only [callF, hf] at h
    by_cases hl : ds.length = f.ps.length
    · exact hl
    · rw [if_neg hl] at h; exact h.elim
section
variable {X : Cx} {k : Nat} {f : Addr} {fd : FuncData} {ps : List Str} {sp : Sp} {x : Str} {p pos : Pos} {e : Expr} {es : List Expr} {t : TA} {Wx : WX}
/-- the callee runs; what it lets out is wished of the slots that stand -/
theorem run_fnS {pins : List (Addr × Obj)} {σ : L2.St} {H : Hp} {s : Shared} {Q : VK} {us : List Value} {vs : List V} (F : FnOk X.prog X.w X.K X.mg X.base (L2.CX X.prog X.w) k f fd ps sp) (hr : Room k X.A) (hb : Binds X.K fd ps []) (tk : Takes X Wx)
    (I : Inv X pins σ H s) (r : Vals vs us) (h : sp vs H Q (fun cls d H' => Wx cls d σ H')) : wpAny (model X.prog X.w) X.A (call (.ref f) us) (EP X pins σ Q) X.xe s := by
  have hl : (us ++ []).length = ps.length := by rw [List.append_nil, ← r.length]; exact F.len _ _ _ _ h
  have hb' := hb s us I.kIn hl
  rw [List.append_nil] at hb'
  refine wpAny_call (codeAny_mono (F.run X.A X.stack s H ⟨us, []⟩ us vs Q _ hr I.env0 hb' r h) fun r s' hq => ?_)
  cases r with
  | error e => exact tk e s' (XE.of_call I (fun _ _ _ h => h) hq)
  | ok fl =>
    cases fl with
    | ret u => exact I.after hq
    | next => exact False.elim hq
    | brk => exact False.elim hq
    | cont => exact False.elim hq
theorem pe_callS (F : FnOk X.prog X.w X.K X.mg X.base (L2.CX X.prog X.w) k f fd ps sp) (hr : Room k X.A) (hg : Gl X x) (hm : X.mg x = some (.ref f)) (hk : PySem.W.keepIn X.K (.ref f) = true) (hb : Binds X.K fd ps []) (tk : Takes X Wx)
    (ha : PA X (e :: es) t) (hdb : (x == ("__debug__" : Str)) = false) (he : starEach (e :: es) X.env = (false, eval e X.env) :: starEach es X.env) (hpl : (backTo pos (starEach es X.env)).any (·.1) = false) :
    PE X (.Call (.Name x p) (e :: es) [] pos) (fun σ H Q => t σ H fun vs H1 => sp vs H1 Q (fun cls d H' => Wx cls d σ H')) := by
  refine ⟨fun pins s σ H Q I h => ?_⟩
  refine wpAny_Call_Name_kw (ld_glob I hg hm ?_ hdb)
  refine PySem.W.callWith_K (h₀ := X.base) I.ok.mod.kin hk (thn (ha.run pos pins s σ H _ I h) fun us s1 ⟨vs, H1, I1, r, q⟩ => ⟨I1.kIn, ?_⟩) he hpl
  exact run_fnS F hr hb tk I1 r q
theorem pe_callS0 (F : FnOk X.prog X.w X.K X.mg X.base (L2.CX X.prog X.w) k f fd ps sp) (hr : Room k X.A) (hg : Gl X x) (hm : X.mg x = some (.ref f)) (hk : PySem.W.keepIn X.K (.ref f) = true) (hb : Binds X.K fd ps []) (tk : Takes X Wx)
    (hdb : (x == ("__debug__" : Str)) = false) : PE X (.Call (.Name x p) [] [] pos) (fun σ H Q => sp [] H Q (fun cls d H' => Wx cls d σ H')) := by
  refine ⟨fun pins s σ H Q I h => ?_⟩
  refine wpAny_Call_Name_kw (ld_glob I hg hm ?_ hdb)
  exact PySem.W.callWith_K0 I.kIn hk (run_fnS (us := []) F hr hb tk I .nil h)
end
/-- the wish told by data is the wish told of the heap -/
theorem Sat.call {A : Type} {X : Cx} {wx : Ex → L2.St → Wd → Prop} {s : L2.St} {W : Wd} {r : Res A} {P : A → Mem → Wd → Prop} (h : Sat ((kx X wx).at s) W r P) : Sat ⟨kb X, xwOf (kb X) (fun cls d H' => wOf X wx cls d s H'), []⟩ W r P := by
  cases r with
  | ok a M => exact h
  | exc x M => exact fun W' l m cls d er => ⟨x, W'.mu, er, h W' l m⟩
  | bad => exact h
theorem ok_call (hq : C.calm = true) {k : Nat} {f : Fn} {x : Str} {p pos : Pos} {e : Expr} {es : List Expr} {ms : MA} (hf : T.fns[k]? = some f) (hx : f.name = x) (hg : C.sc.names.lookup x = some .globalImplicit) (hdb : (x == ("__debug__" : Str)) = false)
    (hs : (e :: es).all noStar = true) (ha : OkA T C (e :: es) ms) : OkE T C (.Call (.Name x p) (e :: es) [] pos) (mCall k ms) := by
  intro n X wx h
  obtain ⟨a, fd, hm, hk, hb, G⟩ := h.fns k f hf
  rw [hx] at hm
  rw [← h.kbq hq] at G
  rw [List.all_cons, Bool.and_eq_true] at hs
  refine PE.of (pe_callS G (h.room hq) (gl_of h hg) hm hk hb h.tk (ha n X wx h) hdb (noStar_each hs.1) (noStars_any hs.2)) fun s H Q q => ?_
  obtain ⟨mu, M, r, mr, sr, sat⟩ := q
  refine ⟨mu, M, r, mr, sr, sat.bind.imp fun ds M1 W1 l1 m1 s1 vs dvs => ?_⟩
  exact ⟨by rw [← dvs.length]; exact callF_len hf s1, W1.mu, M1, ds, m1, dvs, s1.call⟩
theorem ok_call0 (hq : C.calm = true) {k : Nat} {f : Fn} {x : Str} {p pos : Pos} (hf : T.fns[k]? = some f) (hx : f.name = x) (hg : C.sc.names.lookup x = some .globalImplicit) (hdb : (x == ("__debug__" : Str)) = false) : OkE T C (.Call (.Name x p) [] [] pos) (mCall k mNil) := by
  intro n X wx h
  obtain ⟨a, fd, hm, hk, hb, G⟩ := h.fns k f hf
  rw [hx] at hm
  rw [← h.kbq hq] at G
  refine PE.of (pe_callS0 G (h.room hq) (gl_of h hg) hm hk hb h.tk hdb) fun s H Q q => ?_
  obtain ⟨mu, M, r, mr, sr, sat⟩ := q
  have s1 : Sat ((kx X wx).at s) ⟨H, mu⟩ (callF T n k [] M) (PV (kb X) Q) := sat
  exact ⟨callF_len hf s1, mu, M, [], mr, rfl, s1.call⟩
/-- built-ins by values -/
def rC (K : Kb) (f : List D → Mem → Res D) : List V → Hp → VK → Prop := fun xs H Q => ∃ mu M ds, MRel K ⟨H, mu⟩ M ∧ DRels K ⟨H, mu⟩ ds xs ∧ Sat K.no ⟨H, mu⟩ (f ds M) (PV K Q)
def mBl (f : List D → Mem → Res D) (ms : MA) : ME := fun F r M => (ms F r M).bind fun ds M1 => (f ds M1).noX
theorem tCB_of {K : Kx} {F : FT} {f : List D → Mem → Res D} {ms : MA} {s : L2.St} {H : Hp} {Q : VK} (q : rdE K F (mBl f ms) s H Q) : tCB (rC K.b f) (rdA K F ms) s H Q := by
  obtain ⟨mu, M, r, mr, sr, sat⟩ := q
  refine ⟨mu, M, r, mr, sr, sat.bind.imp fun ds M1 W1 l1 m1 s1 vs dvs => ?_⟩
  exact ⟨W1.mu, M1, ds, m1, dvs, s1.noX⟩
theorem ok_blt {x : Str} {id : String} {p pos : Pos} {e : Expr} {es : List Expr} {f : List D → Mem → Res D} {ms : MA} (hc : ∀ n X wx, CxOk T n C X wx → CallR X (.builtin id) (rC (kb X) f)) (hx : x ∈ T.blt) (hg : C.sc.names.lookup x = some .globalImplicit) (hv : bootBuiltins x = some (.builtin id)) (hn : x ≠ "__name__") (hdb : (x == ("__debug__" : Str)) = false)
    (hs : (e :: es).all noStar = true) (ha : OkA T C (e :: es) ms) : OkE T C (.Call (.Name x p) (e :: es) [] pos) (mBl f ms) := by
  intro n X wx h
  rw [List.all_cons, Bool.and_eq_true] at hs
  exact PE.of (pe_callB (hc n X wx h) (gl_of h hg) (h.blt x hx) hv (ha n X wx h) hn hdb (noStar_each hs.1) (noStars_any hs.2)) fun s H Q q => tCB_of q
theorem ok_bty {x : Str} {id : String} {p pos : Pos} {e : Expr} {es : List Expr} {f : List D → Mem → Res D} {ms : MA} (hc : ∀ n X wx, CxOk T n C X wx → CallR X (.type id) (rC (kb X) f)) (hx : x ∈ T.blt) (hg : C.sc.names.lookup x = some .globalImplicit) (hv : bootBuiltins x = some (.type id)) (hn : x ≠ "__name__") (hdb : (x == ("__debug__" : Str)) = false)
    (hs : (e :: es).all noStar = true) (ha : OkA T C (e :: es) ms) : OkE T C (.Call (.Name x p) (e :: es) [] pos) (mBl f ms) := by
  intro n X wx h
  rw [List.all_cons, Bool.and_eq_true] at hs
  exact PE.of (pe_callTy (hc n X wx h) (gl_of h hg) (h.blt x hx) hv (ha n X wx h) hn hdb (noStar_each hs.1) (noStars_any hs.2)) fun s H Q q => tCB_of q
theorem rels1 {K : Kb} {W : Wd} {d : D} {xs : List V} (h : DRels K W [d] xs) : ∃ v, xs = [v] ∧ DRel K W d v := by
  simp only [DRels] at h
  obtain ⟨v, r, rfl, h1, rfl⟩ := h
  exact ⟨v, rfl, h1⟩
theorem rels2 {K : Kb} {W : Wd} {d e : D} {xs : List V} (h : DRels K W [d, e] xs) : ∃ v u, xs = [v, u] ∧ DRel K W d v ∧ DRel K W e u := by
  simp only [DRels] at h
  obtain ⟨v, r, rfl, h1, u, r', rfl, h2, rfl⟩ := h
  exact ⟨v, u, rfl, h1, h2⟩
def lenD (ds : List D) (M : Mem) : Res D := match ds with
  | [.str s] => if s.length ≤ LIM then .ok (.int s.length) M else .bad
  | [d] => match seqD M d with
    | some l => .ok (.int l.length) M
    | none => .bad
  | _ => .bad
theorem cr_len {X : Cx} : CallR X (.builtin "len") (rC (kb X) lenD) := by
  intro pins s σ H xs us Q I r h
  obtain ⟨mu, M, ds, mr, dr, sat⟩ := h
  unfold lenD at sat
  split at sat
  · obtain ⟨hl, sat⟩ := sat_ite sat
    obtain ⟨v, rfl, dv⟩ := rels1 dr
    cases (show v = _ from dv)
    refine call_len_str pins s σ H _ us Q I r ⟨_, rfl, by rw [str_len, ← lim_eq]; exact hl, ?_⟩
    rw [str_len]
    exact sat.ok mr _ rfl
  · split at sat
    · rename_i l e
      obtain ⟨v, rfl, dv⟩ := rels1 dr
      obtain ⟨a, ys, rfl, q, dr'⟩ := seqD_at mr e dv
      refine call_len_seq pins s σ H _ us Q I r ⟨a, ys, rfl, q, ?_⟩
      rw [← dr'.length]
      exact sat.ok mr _ rfl
    · exact sat.elim
  · exact sat.elim
def toIntD (ds : List D) (M : Mem) : Res D := match ds with
  | [.int i] => .ok (.int i) M
  | [.bl b] => .ok (.int (if b then 1 else 0)) M
  | _ => .bad
theorem cr_int {X : Cx} : CallR X (.type "int") (rC (kb X) toIntD) := by
  intro pins s σ H xs us Q I r h
  obtain ⟨mu, M, ds, mr, dr, sat⟩ := h
  unfold toIntD at sat
  split at sat
  · obtain ⟨v, rfl, dv⟩ := rels1 dr
    cases (show v = _ from dv)
    exact call_int1 pins s σ H _ us Q I r (.inl ⟨_, rfl, sat.ok mr _ rfl⟩)
  · obtain ⟨v, rfl, dv⟩ := rels1 dr
    cases (show v = _ from dv)
    exact call_int1 pins s σ H _ us Q I r (.inr ⟨_, rfl, sat.ok mr _ rfl⟩)
  · exact sat.elim
def max2D (ds : List D) (M : Mem) : Res D := match ds with
  | [.int i, .int j] => .ok (.int (if j > i then j else i)) M
  | _ => .bad
def min2D (ds : List D) (M : Mem) : Res D := match ds with
  | [.int i, .int j] => .ok (.int (if j < i then j else i)) M
  | _ => .bad
theorem cr_max2 {X : Cx} (hc : X.calm = true) : CallR X (.builtin "max") (rC (kb X) max2D) := by
  intro pins s σ H xs us Q I r h
  obtain ⟨mu, M, ds, mr, dr, sat⟩ := h
  unfold max2D at sat
  split at sat
  · obtain ⟨v, u, rfl, dv, du⟩ := rels2 dr
    cases (show v = _ from dv); cases (show u = _ from du)
    exact call_max2 hc pins s σ H _ us Q I r ⟨_, _, rfl, sat.ok mr _ rfl⟩
  · exact sat.elim
theorem cr_min2 {X : Cx} (hc : X.calm = true) : CallR X (.builtin "min") (rC (kb X) min2D) := by
  intro pins s σ H xs us Q I r h
  obtain ⟨mu, M, ds, mr, dr, sat⟩ := h
  unfold min2D at sat
  split at sat
  · obtain ⟨v, u, rfl, dv, du⟩ := rels2 dr
    cases (show v = _ from dv); cases (show u = _ from du)
    exact call_min2 hc pins s σ H _ us Q I r ⟨_, _, rfl, sat.ok mr _ rfl⟩
  · exact sat.elim
def toTupD (ds : List D) (M : Mem) : Res D := match ds with
  | [.tup l] => .ok (.tup l) M
  | [d] => match lstD M d with
    | some l => .ok (.tup l) M
    | none => .bad
  | _ => .bad
theorem cr_tuple {X : Cx} : CallR X (.type "tuple") (rC (kb X) toTupD) := by
  intro pins s σ H xs us Q I r h
  obtain ⟨mu, M, ds, mr, dr, sat⟩ := h
  unfold toTupD at sat
  split at sat
  · obtain ⟨v, rfl, dv⟩ := rels1 dr
    have dv' := dv
    simp only [DRel] at dv'
    obtain ⟨a, ys, rfl, t, _⟩ := dv'
    exact call_tuple_of pins s σ H _ us Q I r ⟨a, ys, rfl, .inr ⟨t.sq, sat.ok mr _ dv⟩⟩
  · split at sat
    · rename_i l e
      obtain ⟨v, rfl, dv⟩ := rels1 dr
      obtain ⟨a, ys, rfl, q, dr'⟩ := lstD_at mr e dv
      exact call_tuple_of pins s σ H _ us Q I r ⟨a, ys, rfl, .inl ⟨q, fun p hp => new_tup mr dr' sat hp⟩⟩
    · exact sat.elim
  · exact sat.elim
def toLstD (mt : Bool) (ds : List D) (M : Mem) : Res D := match ds with
  | [d] => match seqD M d with
    | some l => if mt then newO l M else .ok (.lst l) M
    | none => .bad
  | _ => .bad
theorem cr_list {X : Cx} {mt : Bool} : CallR X (.type "list") (rC (kb X) (toLstD mt)) := by
  intro pins s σ H xs us Q I r h
  obtain ⟨mu, M, ds, mr, dr, sat⟩ := h
  unfold toLstD at sat
  split at sat
  · split at sat
    · rename_i l e
      obtain ⟨v, rfl, dv⟩ := rels1 dr
      obtain ⟨a, ys, rfl, q, dr'⟩ := seqD_at mr e dv
      refine call_list_of pins s σ H _ us Q I r ⟨a, ys, rfl, q, fun p hp => ?_⟩
      cases mt with
      | true => exact new_obj mr dr' sat hp
      | false => exact new_lst mr dr' sat hp
    · exact sat.elim
  · exact sat.elim

/-! ### isinstance -/
inductive Ty where
  | int | bool | str | tuple | list | none | dict
  deriving DecidableEq
def Ty.nm : Ty → String
  | .int => "int" | .bool => "bool" | .str => "str" | .tuple => "tuple" | .list => "list" | .none => "NoneType" | .dict => "dict"
def D.ty : D → Ty
  | .non => .none | .bl _ => .bool | .int _ => .int | .str _ => .str | .tup _ => .tuple | .lst _ => .list | .obj _ => .list | .exn _ _ _ => .dict | .ins _ _ _ => .dict
/-- neither an exception nor an instance -/
def D.isPl : D → Bool
  | .exn _ _ _ => false
  | .ins _ _ _ => false
  | _ => true
def isiB : Ty → Ty → Bool
  | .bool, .int => true
  | a, b => decide (a = b)
theorem kit_isi (a b : Ty) : kitB a.nm b.nm = some (isiB a b) := by
  cases a <;> cases b <;> decide +kernel
theorem tyx_of {K : Kb} {W : Wd} {M : Mem} {d : D} {v : V} (m : MRel K W M) (h : DRel K W d v) (hb : ∀ i, d = .obj i → ∃ l, M[i]? = some (.lst l)) (hne : D.isPl d = true) : TyX K.K W.H v (.type d.ty.nm) := by
  cases d with
  | non => cases (show v = _ from h); exact .base .non
  | bl b => cases (show v = _ from h); exact .base (.bl b)
  | int i => cases (show v = _ from h); exact .base (.int i)
  | str s => cases (show v = _ from h); exact .base (.str _)
  | tup l =>
    simp only [DRel] at h
    obtain ⟨a, xs, rfl, t, _⟩ := h
    rcases t with ⟨t | ⟨o, t⟩, _⟩ | ⟨o, its, n, hk, hc, _⟩
    · exact .base (.tup t)
    · exact .fTuple t
    · exact .kTuple hk hc
  | lst l =>
    simp only [DRel] at h
    obtain ⟨a, xs, rfl, t, _⟩ := h
    rcases t with ⟨t | ⟨o, t⟩, _⟩ | ⟨o, its, n, hk, hc, _⟩
    · exact .base (.lst t)
    · exact .base (.frz t)
    · exact .kList hk hc
  | obj i =>
    obtain ⟨l, hi⟩ := hb i rfl
    simp only [DRel] at h
    obtain ⟨a, rfl, q⟩ := h
    obtain ⟨xs, e3, _⟩ := m.obj i a _ q hi
    exact .base (.lst e3)
  | exn c ns ds => cases hne
  | ins c ns ds => cases hne
def mIsi (t : Ty) (m : ME) : ME := fun F r M => (m F r M).bind fun d M1 => match d with
  | .obj i => match M1[i]? with
    | some (.lst _) => .ok (.bl (isiB .list t)) M1
    | _ => .bad
  | .exn _ _ _ => .bad
  | .ins _ _ _ => .bad
  | d => .ok (.bl (isiB d.ty t)) M1
theorem ok_isi {t : Ty} {x y : Str} {p p2 pos : Pos} {e : Expr} {m : ME} (hx : x ∈ T.blt) (hx' : x = "isinstance") (hg : C.sc.names.lookup x = some .globalImplicit) (hy : y ∈ T.blt) (hyn : y = (t.nm : Str)) (hb : bootBuiltins y = some (.type t.nm)) (hgy : C.sc.names.lookup y = some .globalImplicit)
    (hn : y ≠ "__name__") (hdb : (y == ("__debug__" : Str)) = false) (hs : noStar e = true) (he : OkE T C e m) : OkE T C (.Call (.Name x p) [e, .Name y p2] [] pos) (mIsi t m) := by
  intro n X wx h
  subst hx'
  refine PE.of (pe_callB call_isi (gl_of h hg) (h.blt _ hx) boot_isinstance (pa_cons (he n X wx h) (pa_cons (pe_bltn (v := .ty t.nm) (gl_of h hgy) (h.blt _ hy) hb rfl hn hdb) pa_nil (by rfl)) (noStar_each hs)) (by decide) (by decide) (noStar_each hs) (by rfl)) fun s H Q q => ?_
  obtain ⟨mu, M, r, mr, sr, sat⟩ := q
  refine ⟨mu, M, r, mr, sr, sat.bind.imp fun d M1 W1 l1 m1 s1 v dv => ?_⟩
  show rIsi X.K [v, .ty t.nm] W1.H Q
  have key : (∀ i, d = .obj i → ∃ l, M1[i]? = some (.lst l)) ∧ D.isPl d = true ∧ Sat ((kx X wx).at s) W1 (.ok (.bl (isiB d.ty t)) M1) (PV (kb X) Q) := by
    cases d with
    | obj i =>
      cases e : M1[i]? with
      | none => simp only [e] at s1; exact s1.elim
      | some o =>
        cases o with
        | lst l => simp only [e] at s1; exact ⟨fun j q => by cases q; exact ⟨l, e⟩, rfl, s1⟩
        | dct _ l => simp only [e] at s1; exact s1.elim
        | dks _ l => simp only [e] at s1; exact s1.elim
        | ins _ l => simp only [e] at s1; exact s1.elim
    | exn c ns ds => exact s1.elim
    | ins c ns ds => exact s1.elim
    | _ => exact ⟨fun j e => (nomatch e), rfl, s1⟩
  exact ⟨v, .ty t.nm, .type d.ty.nm, .type t.nm, isiB d.ty t, rfl, by constructor, tyx_of m1 dv key.1 key.2.1, kit_ty (kit_isi _ _), key.2.2.ok m1 _ rfl⟩
end RI

namespace RI
open PySem PySem.Spec PyProof.Rows L2
variable {T : Tb} {C : CC}

/-! ### statements -/
def mSkip : MS := fun _ r M => .ok (.next r) M
def mSeq (a b : MS) : MS := fun F r M => (a F r M).bind fun f M1 => match f with
  | .next r1 => b F r1 M1
  | f => .ok f M1
theorem ok_snil : OkSs T C [] mSkip := by
  intro n X wx h
  refine PSs.of pss_nil fun Dn s H q => ?_
  obtain ⟨mu, M, r, mr, sr, sat⟩ := q
  exact sat.ok mr s sr
theorem ok_pass {pos} : OkS T C (.Pass pos) mSkip := by
  intro n X wx h
  refine PS.of ps_pass fun Dn s H q => ?_
  obtain ⟨mu, M, r, mr, sr, sat⟩ := q
  exact sat.ok mr s sr
theorem seq_of {K : Kx} {F : FT} {a b : MS} {Dn : Ends} {s : L2.St} {H : Hp} (q : rdS K F (mSeq a b) Dn s H) : tSeq (rdS K F a) (rdS K F b) Dn s H := by
  obtain ⟨mu, M, r, mr, sr, sat⟩ := q
  refine ⟨mu, M, r, mr, sr, sat.bind.imp fun f M1 W1 l1 m1 s1 => ?_⟩
  cases f with
  | next r1 => exact fun s' sr' => ⟨W1.mu, M1, r1, m1, sr', s1⟩
  | ret d => exact Sat.ok (show Sat _ _ (Res.ok (Fl.ret d) M1) _ from s1) m1
  | brk d => exact Sat.ok (show Sat _ _ (Res.ok (Fl.brk d) M1) _ from s1) m1
  | cont d => exact Sat.ok (show Sat _ _ (Res.ok (Fl.cont d) M1) _ from s1) m1
  | rse x d => exact Sat.ok (show Sat _ _ (Res.ok (Fl.rse x d) M1) _ from s1) m1
theorem ok_scons {st : Stmt} {rest : List Stmt} {a b : MS} (h1 : OkS T C st a) (h2 : OkSs T C rest b) : OkSs T C (st :: rest) (mSeq a b) := fun n X wx h => PSs.of (pss_cons (h1 n X wx h) (h2 n X wx h)) fun _ _ _ q => seq_of q
theorem ok_sone {st : Stmt} {a : MS} (h1 : OkS T C st a) : OkSs T C [st] a := fun n X wx h => pss_one (h1 n X wx h)
def mBreak : MS := fun _ r M => .ok (.brk r) M
def mCont : MS := fun _ r M => .ok (.cont r) M
theorem ok_break {pos} : OkS T C (.Break pos) mBreak := by
  intro n X wx h
  refine PS.of ps_break fun Dn s H q => ?_
  obtain ⟨mu, M, r, mr, sr, sat⟩ := q
  exact sat.ok mr s sr
theorem ok_cont {pos} : OkS T C (.Continue pos) mCont := by
  intro n X wx h
  refine PS.of ps_continue fun Dn s H q => ?_
  obtain ⟨mu, M, r, mr, sr, sat⟩ := q
  exact sat.ok mr s sr
def mNever : MS := fun _ _ _ => .bad
theorem ok_never {st : Stmt} : OkS T C st mNever := by
  intro n X wx h
  refine PS.of ps_never fun Dn s H q => ?_
  obtain ⟨mu, M, r, mr, sr, sat⟩ := q
  exact sat
def mRet (m : ME) : MS := fun F r M => (m F r M).toS r fun d M1 => .ok (.ret d) M1
theorem ok_ret {e : Expr} {pos} {m : ME} (h : OkE T C e m) : OkS T C (.Return (some e) pos) (mRet m) := by
  intro n X wx q
  refine PS.of (ps_ret (h n X wx q)) fun Dn s H q => ?_
  obtain ⟨mu, M, r, mr, sr, sat⟩ := q
  exact ⟨mu, M, r, mr, sr, (Sat.toS sat sr).imp fun d M1 W1 l1 m1 s1 v dv => s1.ok m1 v dv⟩
def mRetN : MS := fun _ _ M => .ok (.ret .non) M
theorem ok_retN {pos} : OkS T C (.Return none pos) mRetN := by
  intro n X wx q
  refine PS.of ps_retN fun Dn s H q => ?_
  obtain ⟨mu, M, r, mr, sr, sat⟩ := q
  exact sat.ok mr _ rfl
def mDrop (m : ME) : MS := fun F r M => (m F r M).toS r fun _ M1 => .ok (.next r) M1
def noComp : Expr → Bool
  | .ListComp .. => false
  | .SetComp .. => false
  | .DictComp .. => false
  | _ => true
theorem noComp_sw {e : Expr} {t : Option Expr} {l : Nat} {env : Env} (h : noComp e = true) : swapsWith e t l env = pure false := by
  cases e <;> first | rfl | cases h
theorem ok_expr {e : Expr} {pos} {m : ME} (hn : noComp e = true) (h : OkE T C e m) : OkS T C (.Expr e pos) (mDrop m) := by
  intro n X wx q
  refine PS.of (ps_expr (h n X wx q) (noComp_sw hn)) fun Dn s H q => ?_
  obtain ⟨mu, M, r, mr, sr, sat⟩ := q
  exact ⟨mu, M, r, mr, sr, (Sat.toS sat sr).imp fun d M1 W1 l1 m1 s1 v dv => s1.ok m1 s (sr.le l1)⟩
def mIfS (c : MT) (a b : MS) : MS := fun F r M => (c F r M).toS r fun k M1 => if k then a F r M1 else b F r M1
theorem ok_ifS {c : Expr} {p q : List Stmt} {pos} {mc : MT} {a b : MS} (hc : OkT T C c mc) (ha : OkSs T C p a) (hb : OkSs T C q b) : OkS T C (.If c p q pos) (mIfS mc a b) := by
  intro n X wx q
  refine PS.of (ps_if (hc n X wx q) (ha n X wx q) (hb n X wx q)) fun Dn s H q => ?_
  obtain ⟨mu, M, r, mr, sr, sat⟩ := q
  refine ⟨mu, M, r, mr, sr, (Sat.toS sat sr).imp fun k M1 W1 l1 m1 s1 => ?_⟩
  cases k with
  | true => exact iteT ⟨W1.mu, M1, r, m1, sr.le l1, s1⟩
  | false => exact iteF ⟨W1.mu, M1, r, m1, sr.le l1, s1⟩

/-! ### targets -/
def gN (i : Nat) : MG := fun _ d r M => .ok (r.set i (some d)) M
theorem loc_of {n : Nat} {X : Cx} {wx : Ex → L2.St → Wd → Prop} (h : CxOk T n C X wx) {x : Str} (hl : C.sc.names.lookup x = some .local ∨ (C.sc.names.lookup x = some .cell ∧ C.fn x = true)) : Loc X.env.scope x ∧ (X.fn x = true ∨ X.env.scope.names.lookup x = some .local) := by
  rw [h.sc, h.fn]
  rcases hl with hl | ⟨hl, hf⟩
  · exact ⟨.inl hl, .inr hl⟩
  · exact ⟨.inr hl, .inl hf⟩
theorem ok_gname {i : Nat} {x : Str} {pos : Pos} (hi : C.N[i]? = some x) (hl : C.sc.names.lookup x = some .local ∨ (C.sc.names.lookup x = some .cell ∧ C.fn x = true)) : OkG T C (.Name x pos) (gN i) := by
  intro n X wx h
  obtain ⟨h1, h2⟩ := loc_of h hl
  refine PG.of (pg_name h.nd (by rw [h.N]; exact hi) h1 h2) fun v s H Q q => ?_
  obtain ⟨mu, M, r, mr, sr, d, dv, sat⟩ := q
  exact sat.ok mr _ (sr.set dv i)
def gsNil : MGs := fun _ ds r M => match ds with
  | [] => .ok r M
  | _ => .bad
def gsCons (g : MG) (gs : MGs) : MGs := fun F ds r M => match ds with
  | d :: rest => (g F d r M).bind fun r1 M1 => gs F rest r1 M1
  | [] => .bad
theorem ok_gsnil : OkGs T C [] gsNil := by
  intro n X wx h
  refine PGs.of pgs_nil fun v s H Q q => ?_
  obtain ⟨mu, M, r, mr, sr, ds, dv, sat⟩ := q
  cases ds with
  | nil => exact ⟨dv, sat.ok mr s sr⟩
  | cons _ _ => exact sat.elim
def noStarT : Expr → Bool
  | .Starred .. => false
  | _ => true
theorem noStarT_each {e : Expr} {es : List Expr} {env : Env} (h : noStarT e = true) : assignEach (e :: es) env = (false, assign e env) :: assignEach es env := by
  cases e <;> first | rfl | cases h
theorem ok_gscons {e : Expr} {es : List Expr} {g : MG} {gs : MGs} (hs : noStarT e = true) (h1 : OkG T C e g) (h2 : OkGs T C es gs) : OkGs T C (e :: es) (gsCons g gs) := by
  intro n X wx h
  refine PGs.of (pgs_cons (h1 n X wx h) (h2 n X wx h) (by rw [noStarT_each hs]; rfl)) fun v s H Q q => ?_
  obtain ⟨mu, M, r, mr, sr, ds, dv, sat⟩ := q
  cases ds with
  | nil => exact sat.elim
  | cons d rest =>
    simp only [DRels] at dv
    obtain ⟨v1, vr, rfl, d1, d2⟩ := dv
    refine ⟨v1, vr, rfl, mu, M, r, mr, sr, d, d1, sat.bind.imp fun r1 M1 W1 l1 m1 s1 s' sr' => ?_⟩
    exact ⟨W1.mu, M1, r1, m1, sr', rest, DRels.le l1 rest vr d2, s1⟩
def gTp (n : Nat) (gs : MGs) : MG := fun F d r M => match seqD M d with
  | some l => if l.length = n then gs F l r M else .bad
  | none => .bad
theorem noStarsT {env : Env} : ∀ {es : List Expr}, es.all noStarT = true → (assignEach es env).length = es.length ∧ (assignEach es env).findIdx? (·.1) = none
  | [], _ => ⟨rfl, rfl⟩
  | e :: es, h => by
    rw [List.all_cons, Bool.and_eq_true] at h
    rw [noStarT_each h.1]
    obtain ⟨h1, h2⟩ := noStarsT (env := env) h.2
    refine ⟨by simp [h1], ?_⟩
    rw [List.findIdx?_cons]
    simp [h2]
theorem PG.or {X : Cx} {e : Expr} {t t' : TG} (h : PG X e t) (h' : PG X e t') : PG X e (fun v s H Q => t v s H Q ∨ t' v s H Q) := ⟨fun pins s σ H v u Q I r q => by
  rcases q with q | q
  · exact h.run pins s σ H v u Q I r q
  · exact h'.run pins s σ H v u Q I r q⟩
theorem ok_gtup (hq : C.calm = true) {es : List Expr} {k pos} {gs : MGs} {m : Nat} (hs : es.all noStarT = true) (hm : es.length = m) (h : OkGs T C es gs) : OkG T C (.Tuple es k pos) (gTp m gs) := by
  intro n X wx q
  obtain ⟨a1, a2⟩ := noStarsT (env := X.env) hs
  refine PG.of (PG.or (pg_tup (q.calm.trans hq) (h n X wx q) (a1.trans hm) a2) (pg_unl (q.calm.trans hq) (h n X wx q) (a1.trans hm) a2)) fun v s H Q w => ?_
  obtain ⟨mu, M, r, mr, sr, d, dv, sat⟩ := w
  unfold gTp at sat
  split at sat
  · rename_i l e
    obtain ⟨hl, sat⟩ := sat_ite sat
    obtain ⟨a, xs, rfl, hq, dr⟩ := seqD_at mr e dv
    rcases hq with hq | hq
    · exact .inr ⟨a, xs, rfl, hq, by rw [← dr.length]; exact hl, mu, M, r, mr, sr, l, dr, sat⟩
    · exact .inl ⟨a, xs, rfl, hq, by rw [← dr.length]; exact hl, mu, M, r, mr, sr, l, dr, sat⟩
  · exact sat.elim
/-- o[i] = v -/
def setS (o i v : D) (M : Mem) : Res Unit := match o, i with
  | .obj j, .int k => match M[j]? with
    | some (.lst l) => match ixN l.length k with
      | some p => if D.bel j v then .ok () (M.set j (.lst (l.set p v))) else .bad
      | none => .bad
    | _ => .bad
  | _, _ => .bad
def setK (o i v : D) (l : List (D × D)) (M : Mem) : Res Unit := match o with
  | .obj j => if (D.isKey i && D.bel j v && Nat.ble l.length 16777215) = true then .ok () (M.set j (.dct false (dsetD i v l))) else .bad
  | _ => .bad
/-- a dict that may be written -/
def wctD (M : Mem) : D → Option (List (D × D))
  | .obj i => match M[i]? with
    | some (.dct false l) => some l
    | _ => none
  | _ => none
def wksD (M : Mem) : D → Option (List (D × D))
  | .obj i => match M[i]? with
    | some (.dks false l) => some l
    | _ => none
  | _ => none
theorem wctD_obj {M : Mem} {d : D} {l : List (D × D)} (h : wctD M d = some l) : ∃ j, d = .obj j ∧ M[j]? = some (.dct false l) := by
  cases d with
  | obj j =>
    simp only [wctD] at h
    split at h
    · rename_i l' e; exact ⟨j, rfl, by rw [e]; cases h; rfl⟩
    · cases h
  | _ => simp [wctD] at h
theorem wksD_obj {M : Mem} {d : D} {l : List (D × D)} (h : wksD M d = some l) : ∃ j, d = .obj j ∧ M[j]? = some (.dks false l) := by
  cases d with
  | obj j =>
    simp only [wksD] at h
    split at h
    · rename_i l' e; exact ⟨j, rfl, by rw [e]; cases h; rfl⟩
    · cases h
  | _ => simp [wksD] at h
def setKs (o i v : D) (l : List (D × D)) (M : Mem) : Res Unit := match o, D.key1 i with
  | .obj j, some k => if (D.bel j v && Nat.ble l.length 16777215) = true then .ok () (M.set j (.dks false (dkset k i v l))) else .bad
  | _, _ => .bad
def setD (o i v : D) (M : Mem) : Res Unit := match wctD M o with
  | some l => setK o i v l M
  | none => match wksD M o with
    | some l => setKs o i v l M
    | none => setS o i v M
theorem storedH_len (xs : List (NestedKey × Addr × Value)) (k : NestedKey) (a : Addr) (v : Value) : (storedH xs k a v).length ≤ xs.length + 1 := by
  unfold storedH
  split <;> simp
theorem paired_len {α β : Type} {F : α → β → Prop} {l : List α} {m : List β} (h : Paired F l m) : l.length = m.length := by
  induction h with
  | nil => rfl
  | cons _ _ ih => simp [ih]
theorem bels_set {n : Nat} {d : D} (hd : D.bel n d = true) : ∀ {l : List D} (i : Nat), D.bels n l = true → D.bels n (l.set i d) = true
  | [], _, h => h
  | e :: es, 0, h => by
    simp only [List.set_cons_zero, D.bels, Bool.and_eq_true] at h ⊢
    exact ⟨hd, h.2⟩
  | e :: es, i + 1, h => by
    simp only [List.set_cons_succ, D.bels, Bool.and_eq_true] at h ⊢
    exact ⟨h.1, bels_set hd i h.2⟩
theorem bels_app {n : Nat} : ∀ {l l' : List D}, D.bels n l = true → D.bels n l' = true → D.bels n (l ++ l') = true
  | [], _, _, h => h
  | e :: es, l', h, h' => by
    simp only [List.cons_append, D.bels, Bool.and_eq_true] at h ⊢
    exact ⟨h.1, bels_app h.2 h'⟩
def rSetD (K : Kb) : V → V → V → Hp → (Hp → Prop) → Prop := fun o i v H Q => ∃ mu M d1 d2 d3, MRel K ⟨H, mu⟩ M ∧ DRel K ⟨H, mu⟩ d1 o ∧ DRel K ⟨H, mu⟩ d2 i ∧ DRel K ⟨H, mu⟩ d3 v ∧ Sat K.no ⟨H, mu⟩ (setD d1 d2 d3 M) (fun _ _ W => Q W.H)
theorem set_d {X : Cx} (hu : X.A.units + 65 < cLine) : PSet X (rSetD (kb X)) := by
  intro pins s σ H o i v ov iv u Q I ro ri rv h
  obtain ⟨mu, M, d1, d2, d3, mr, h1, h2, h3, sat⟩ := h
  unfold setD at sat
  split at sat
  · rename_i l e
    obtain ⟨j, rfl, ej⟩ := wctD_obj e
    obtain ⟨hk, sat⟩ := sat_ite sat
    simp only [Bool.and_eq_true] at hk
    obtain ⟨⟨hk, hb⟩, hn⟩ := hk
    have hn := Nat.le_of_ble_eq_true hn
    simp only [DRel] at h1
    obtain ⟨a, rfl, ha⟩ := h1
    cases ro
    obtain ⟨ka, rfl, rfl, hki⟩ := isKey_is I hk h2 ri
    obtain ⟨xs, g1, hd, g3, g4, g5⟩ := dct_at I mr ha ej
    have hl := paired_len g5
    obtain ⟨gk, g1⟩ := (show _ ∧ H a = _ from g1)
    refine wpAny_setItem_heap (room_k hu) hki hd (fun h' d' sb => ?_) g3
    have nd := d'.nodup
    have hz : (storedH xs (D.toK d2) ka u).length ≤ sizeLine := by
      have := storedH_len xs (D.toK d2) ka u
      rw [sizeLine_eq]; omega
    obtain ⟨l1, m1⟩ := mr.wroteO ha gk (DctO X.prog X.w a (storedH xs (D.toK d2) ka u)) (.dct false (dsetD d2 d3 l)) fun W' lk eW ek => ⟨_, ⟨ek, eW⟩, nd, hz, g4, Paired.mapP (dset_rel hk h2 h3 rv hb g5) fun _ _ q => q.lk lk⟩
    exact ⟨upd H a (DctO X.prog X.w a (storedH xs (D.toK d2) ka u)), d_write I (by rw [g1]; exact True.intro) sb (let ⟨q, _, _, hq, _⟩ := d'; ⟨q, hq⟩) (dct_new d'), sat _ l1 m1⟩
  split at sat
  · rename_i l e
    obtain ⟨j, rfl, ej⟩ := wksD_obj e
    unfold setKs at sat
    split at sat
    · rename_i _ _ j' k ed ek
      cases ed
      obtain ⟨hk, sat⟩ := sat_ite sat
      simp only [Bool.and_eq_true] at hk
      obtain ⟨hb, hn⟩ := hk
      have hn := Nat.le_of_ble_eq_true hn
      simp only [DRel] at h1
      obtain ⟨a, rfl, ha⟩ := h1
      cases ro
      obtain ⟨kvs, g1, g2⟩ := dks_at mr ha ej
      obtain ⟨gk, g1⟩ := (show _ ∧ _ from g1)
      have hl := paired_len g2
      obtain ⟨l1, m1⟩ := mr.wroteO ha gk (.dK (putK kvs k v)) (.dks false (dkset k d2 d3 l)) fun W' lk eW ek' => ⟨_, ⟨ek', eW⟩, Paired.mapP (dkset_rel ek h3 hb g2) fun _ _ q => q.lk lk⟩
      exact d_setItem (by omega) I (.inl ⟨kvs, k, g1, key1_kV ek h2, by rw [sizeLine_eq]; omega, rfl⟩) ri rv fun s' I' => ⟨_, I', sat _ l1 m1⟩
    · exact sat.elim
  unfold setS at sat
  split at sat
  · rename_i _ _ j k _ _
    split at sat
    · rename_i l e
      split at sat
      · rename_i p ep
        obtain ⟨b, sat⟩ := sat_ite sat
        simp only [DRel] at h1
        obtain ⟨a, rfl, ha⟩ := h1
        cases (show i = _ from h2)
        obtain ⟨xs, eh, dr, bl, nk⟩ := mr.obj j a _ ha e
        refine set_list pins s σ H _ _ v ov iv u Q I ro ri rv ⟨a, xs, k, p, rfl, rfl, eh, by rw [← dr.length]; exact ep, ?_⟩
        obtain ⟨l1, m1⟩ := mr.wrote ha nk (DRels.set h3 p dr) (bels_set b p bl)
        exact sat _ l1 m1
      · exact sat.elim
    · exact sat.elim
  · exact sat.elim
def gSb (mo mi : ME) : MG := fun F d r M => (mo F r M).bind fun o M1 => (mi F r M1).bind fun i M2 => (setD o i d M2).bind fun _ M3 => .ok r M3
theorem noSlice_as {i o : Expr} {pos : Pos} {env : Env} (h : noSlice i = true) : ∀ v, assign (.Subscript o i pos) env v = (do
      let ov ← holding [v] (eval o env)
      let iv ← holding [v, ov] (eval i env)
      standAt pos
      holding [v, ov, iv] (setItem ov iv v)
      release [v, ov, iv] []) := by
  intro v
  cases i <;> first | rfl | cases h
theorem ok_gsub {o i : Expr} {pos : Pos} {mo mi : ME} (hs : noSlice i = true) (ho : OkE T C o mo) (hi : OkE T C i mi) : OkG T C (.Subscript o i pos) (gSb mo mi) := by
  intro n X wx h
  refine PG.of (pg_sub (ho n X wx h) (hi n X wx h) (set_d (by have := h.un; omega)) (noSlice_as hs)) fun v s H Q q => ?_
  obtain ⟨mu, M, r, mr, sr, d, dv, sat⟩ := q
  refine ⟨mu, M, r, mr, sr, (Sat.up (K := (kx X wx).at s) sat.bind).imp fun x M1 W1 l1 m1 s1 xv dx => ?_⟩
  refine ⟨W1.mu, M1, r, m1, sr.le l1, (Sat.up (K := (kx X wx).at s) s1.bind).imp fun y M2 W2 l2 m2 s2 yv dy => ?_⟩
  refine ⟨W2.mu, M2, x, y, d, m2, DRel.le l2 x xv dx, dy, DRel.le (l1.trans l2) d v dv, s2.bind.imp fun _ M3 W3 l3 m3 s3 => ?_⟩
  exact s3.ok m3 s (sr.le ((l1.trans l2).trans l3))
/-! ### assignments -/
def mAsg (m : ME) (g : MG) : MS := fun F r M => (m F r M).toS r fun d M1 => (g F d r M1).bind fun r1 M2 => .ok (.next r1) M2
theorem asg_of {K : Kx} {F : FT} {m : ME} {g : MG} {Dn : Ends} {s : L2.St} {H : Hp} (q : rdS K F (mAsg m g) Dn s H) : tAsg (rdE K F m) (rdG K F g) Dn s H := by
  obtain ⟨mu, M, r, mr, sr, sat⟩ := q
  refine ⟨mu, M, r, mr, sr, (Sat.toS sat sr).imp fun d M1 W1 l1 m1 s1 v dv => ?_⟩
  exact ⟨W1.mu, M1, r, m1, sr.le l1, d, dv, s1.bind.imp fun r1 M2 W2 l2 m2 s2 s' sr' => s2.ok m2 s' sr'⟩
theorem ok_asg {tg e : Expr} {pos} {m : ME} {g : MG} (hn : noComp e = true) (hw : ∀ env : Env, env.scope = C.sc → swappedStores [tg] e env = pure none) (hs : noStarT tg = true) (he : OkE T C e m) (hg : OkG T C tg g) : OkS T C (.Assign [tg] e pos) (mAsg m g) := by
  intro n X wx h
  exact PS.of (ps_asg (he n X wx h) (hg n X wx h) (by show swapsWith e (some tg) _ _ = _; exact noComp_sw hn) (hw X.env h.sc) (by rw [noStarT_each hs]; rfl)) fun _ _ _ q => asg_of q
theorem ok_set {i : Nat} {x : Str} {e : Expr} {pos pos'} {m : ME} (hn : noComp e = true) (hi : C.N[i]? = some x) (hl : C.sc.names.lookup x = some .local ∨ (C.sc.names.lookup x = some .cell ∧ C.fn x = true)) (he : OkE T C e m) : OkS T C (.Assign [.Name x pos'] e pos) (mAsg m (gN i)) := by
  intro n X wx h
  obtain ⟨h1, h2⟩ := loc_of h hl
  refine PS.of (ps_set h.nd (by rw [h.N]; exact hi) h1 (he n X wx h) (noComp_sw hn) h2) fun Dn s H q => ?_
  obtain ⟨mu, M, r, mr, sr, sat⟩ := asg_of q
  refine ⟨mu, M, r, mr, sr, sat.imp fun d M1 W1 l1 m1 s1 v dv => ?_⟩
  obtain ⟨mu2, M2, r2, mr2, sr2, d2, dv2, sat2⟩ := s1 v dv
  exact sat2.ok mr2 _ (sr2.set dv2 i)
/-- a, b = x, y -/
def mPar (i j : Nat) (ms : MA) : MS := fun F r M => (ms F r M).toS r fun ds M1 => match ds with
  | [v, w] => .ok (.next ((r.set i (some v)).set j (some w))) M1
  | _ => .bad
theorem ok_par (hq : C.calm = true) {i j : Nat} {x y : Str} {a b : Expr} {ms : MA} {px py pt pos : Pos} {kt k2 pt2} (hi : C.N[i]? = some x) (hj : C.N[j]? = some y) (hij : i ≠ j)
    (hx : C.sc.names.lookup x = some .local) (hy : C.sc.names.lookup y = some .local) (ha : OkA T C [a, b] ms)
    (hw : ∀ env : Env, env.scope = C.sc → swappedStores [.Tuple [.Name x px, .Name y py] kt pt] (.Tuple [a, b] k2 pt2) env = pure (some [x, y])) :
    OkS T C (.Assign [.Tuple [.Name x px, .Name y py] kt pt] (.Tuple [a, b] k2 pt2) pos) (mPar i j ms) := by
  intro n X wx h
  refine PS.of (ps_par (h.calm.trans hq) h.nd (by rw [h.N]; exact hi) (by rw [h.N]; exact hj) hij (by rw [h.sc]; exact hx) (by rw [h.sc]; exact hy) (ha n X wx h) (hw X.env h.sc) (by rfl)) fun Dn s H q => ?_
  obtain ⟨mu, M, r, mr, sr, sat⟩ := q
  refine ⟨mu, M, r, mr, sr, (Sat.toS sat sr).imp fun ds M1 W1 l1 m1 s1 vs dvs => ?_⟩
  split at s1
  · obtain ⟨v, w, rfl, d1, d2⟩ := rels2 dvs
    exact ⟨v, w, rfl, s1.ok m1 _ (((sr.le l1).set d1 i).set d2 j)⟩
  · exact s1.elim
/-- x op= e, by the operator's function on data -/
def mAug (i : Nat) (f : D → D → Mem → Res D) (m : ME) : MS := fun F r M => match r[i]? with
  | some (some d) => (m F r M).toS r fun e M1 => (f d e M1).noX.bind fun z M2 => .ok (.next (r.set i (some z))) M2
  | _ => .bad
theorem ok_aug {i : Nat} {x : Str} {e : Expr} {op : Operator} {pos pos'} {f : D → D → Mem → Res D} {m : ME} (hi : C.N[i]? = some x) (hl : C.sc.names.lookup x = some .local ∨ (C.sc.names.lookup x = some .cell ∧ C.fn x = true)) (ho : ∀ n X wx, CxOk T n C X wx → OpR X (inplaceOp op) (rB (kb X) f)) (he : OkE T C e m) : OkS T C (.AugAssign (.Name x pos') op e pos) (mAug i f m) := by
  intro n X wx h
  obtain ⟨h1, h2⟩ := loc_of h hl
  refine PS.of (ps_aug (ti := rB (kb X) f) h.nd (by rw [h.N]; exact hi) h1 (he n X wx h) (ho n X wx h) h2) fun Dn s H q => ?_
  obtain ⟨mu, M, r, mr, sr, sat⟩ := q
  unfold mAug at sat
  split at sat
  · rename_i d e
    obtain ⟨v, ev, dv⟩ := sr.get i d e
    refine ⟨v, ev, mu, M, r, mr, sr, (Sat.toS sat sr).imp fun y M1 W1 l1 m1 s1 u du => ?_⟩
    refine ⟨W1.mu, M1, d, y, m1, DRel.le l1 d v dv, du, s1.bind.noX.imp fun z M2 W2 l2 m2 s2 zv dz => ?_⟩
    exact s2.ok m2 _ ((sr.le (l1.trans l2)).set dz i)
  · exact sat.elim
theorem or_iadd {X : Cx} : OpR X (inplaceOp .Add) (rB (kb X) (intD (fun _ _ => true) fun i j => .int (i + j))) := or_int0 iop_add fun _ _ _ _ => rfl
theorem or_isub {X : Cx} : OpR X (inplaceOp .Sub) (rB (kb X) (intD (fun _ _ => true) fun i j => .int (i - j))) := or_int0 iop_sub fun _ _ _ _ => rfl
/-! ### while -/
def whileN (c : MT) (b : MS) (F : FT) : Nat → EV → Mem → Res Fl
  | 0, _, _ => .bad
  | n + 1, r, M => (c F r M).toS r fun k M1 => if k then (b F r M1).bind fun f M2 => match f with
      | .next r1 => whileN c b F n r1 M2
      | .cont r1 => whileN c b F n r1 M2
      | .brk r1 => .ok (.next r1) M2
      | .ret d => .ok (.ret d) M2
      | .rse x r1 => .ok (.rse x r1) M2
    else .ok (.next r) M1
abbrev FUEL : Nat := 1000000000
def mWhl (c : MT) (b : MS) : MS := fun F r M => whileN c b F FUEL r M
theorem ok_while {c : Expr} {body : List Stmt} {pos} {mc : MT} {mb : MS} (hc : OkT T C c mc) (hb : OkSs T C body mb) : OkS T C (.While c body [] pos) (mWhl mc mb) := by
  intro n X wx h
  refine PS.of (ps_while h.pas (hc n X wx h) (hb n X wx h)) fun Dn s H q => ?_
  refine ⟨fun m s H => At (kb X) s H fun mu r M => Sat (kb X).no ⟨H, mu⟩ (whileN mc mb (callF T n) m r M) (PF (kx X wx) Dn), ⟨FUEL, q⟩, fun m s H q => ?_⟩
  obtain ⟨mu, M, r, mr, sr, sat⟩ := q
  cases m with
  | zero => exact sat.elim
  | succ m =>
    refine ⟨mu, M, r, mr, sr, (Sat.toS (K := kx X wx) (show Sat (kb X).no ⟨H, mu⟩ ((mc (callF T n) r M).toS r _) _ from sat) sr).imp fun k M1 W1 l1 m1 s1 => ?_⟩
    cases k with
    | false => exact iteF (Sat.ok (show Sat _ _ (Res.ok (Fl.next r) M1) _ from s1) m1 s (sr.le l1))
    | true =>
      refine iteT ⟨fun s H => At (kb X) s H fun mu r M => Sat (kb X).no ⟨H, mu⟩ (whileN mc mb (callF T n) m r M) (PF (kx X wx) Dn), fun s' H' q' => ⟨m, Nat.lt_succ_self m, q'⟩, W1.mu, M1, r, m1, sr.le l1, ?_⟩
      refine (Sat.bind (show Sat (kb X).no W1 ((mb (callF T n) r M1).bind _) _ from s1)).imp fun f M2 W2 l2 m2 s2 => ?_
      cases f with
      | next r1 => exact fun s' sr' => ⟨W2.mu, M2, r1, m2, sr', s2⟩
      | cont r1 => exact fun s' sr' => ⟨W2.mu, M2, r1, m2, sr', s2⟩
      | brk r1 => exact Sat.ok (show Sat _ _ (Res.ok (Fl.next r1) M2) _ from s2) m2
      | ret d => exact Sat.ok (show Sat _ _ (Res.ok (Fl.ret d) M2) _ from s2) m2
      | rse x r1 => exact Sat.ok (show Sat _ _ (Res.ok (Fl.rse x r1) M2) _ from s2) m2
end RI

namespace RI
open PySem PySem.Spec PyProof.Rows L2
variable {T : Tb} {C : CC}

/-! ### what is walked -/
/-- a list that may change: it must not while it is walked -/
abbrev Gd := Option (Nat × List D)
def Gd.ok (g : Gd) (M : Mem) : Bool := match g with
  | none => true
  | some (j, l) => match M[j]? with
    | some (.lst l') => D.beqs l l'
    | _ => false
@[simp] theorem gd_none (M : Mem) : Gd.ok none M = true := rfl
abbrev MI := FT → EV → Mem → Res (List D × Gd)
structure WalkOk (K : Kb) (W : Wd) (g : Gd) (ds : List D) (J : It) : Prop where
  go : ∀ i W' M, Lk W W' → MRel K W' M → Gd.ok g M = true → i < ds.length → J.go i W'.H
  stop : ∀ W' M, Lk W W' → MRel K W' M → Gd.ok g M = true → J.stop ds.length W'.H
  yld : ∀ i d W' M x H', ds[i]? = some d → Lk W W' → MRel K W' M → Gd.ok g M = true → J.yld i W'.H x H' → ∃ W'', W''.H = H' ∧ Le W' W'' ∧ MRel K W'' M ∧ DRel K W'' d x
def rdI (K : Kx) (F : FT) (m : MI) : TI := fun s H R => At K s H fun mu r M => Sat (K.at s) ⟨H, mu⟩ (m F r M) (fun p _ W => ∀ J, WalkOk K W p.2 p.1 J → R J W.H)
def OkI (T : Tb) (C : CC) (tg e : Expr) (m : MI) : Prop := ∀ n X wx, CxOk T n C X wx → PI X tg e (rdI (kx X wx) (callF T n) m)
theorem PI.of {X : Cx} {tg e : Expr} {t t' : TI} (h : PI X tg e t) (f : ∀ s H R, t' s H R → t s H R) : PI X tg e t' := ⟨fun pins s σ H R I q => h.run pins s σ H R I (f σ H R q)⟩
theorem PI.or {X : Cx} {tg e : Expr} {t t' : TI} (h : PI X tg e t) (h' : PI X tg e t') : PI X tg e (fun s H R => t s H R ∨ t' s H R) := ⟨fun pins s σ H R I q => by
  rcases q with q | q
  · exact h.run pins s σ H R I q
  · exact h'.run pins s σ H R I q⟩
theorem walk_at {K : Kb} {W : Wd} {ds : List D} {xs : List V} {J : It} {G : Hp → Prop} (w : Walk J xs.length G (YAt xs)) (hG : ∀ W', Lk W W' → G W'.H) (r : DRels K W ds xs) : WalkOk K W none ds J where
  go := fun i W' M l m _ hi => w.goes i _ (by rw [← r.length]; exact hi) (hG W' l)
  stop := fun W' M l m _ => by rw [r.length]; exact w.stops _ (hG W' l)
  yld := fun i d W' M x H' e l m _ y => by
    obtain ⟨v, ev, dv⟩ := r.get e
    have hi : i < xs.length := by
      by_cases q : i < xs.length
      · exact q
      · rw [List.getElem?_eq_none (by omega)] at ev; cases ev
    obtain ⟨e1, e2⟩ := w.yields i _ x H' hi (hG W' l) y
    rw [ev] at e2; cases e2
    exact ⟨W', e1.symm, Le.refl _, m, DRel.lk l d _ dv⟩
/-- a list that is never changed, or a tuple -/
def mSeqI (m : ME) : MI := fun F r M => (m F r M).bind fun d M1 => match d with
  | .tup l => .ok (l, none) M1
  | .lst l => .ok (l, none) M1
  | .obj j => match M1[j]? with
    | some (.lst l) => .ok (l, some (j, l)) M1
    | _ => .bad
  | _ => .bad
theorem gd_at {j : Nat} {l : List D} {M : Mem} (h : Gd.ok (some (j, l)) M = true) : M[j]? = some (.lst l) := by
  simp only [Gd.ok] at h
  split at h
  · rename_i l' e; rw [e, D.of_beqs _ _ h]
  · cases h
/-- a list that may change -/
theorem walk_obj {K : Kb} {W : Wd} {j : Nat} {a : Addr} {l : List D} (ha : W.mu.l[j]? = some a) : WalkOk K W (some (j, l)) l (Itl K.K a) := by
  have key : ∀ W' M, Lk W W' → MRel K W' M → Gd.ok (some (j, l)) M = true → ∃ xs, SqL K.K W'.H a xs ∧ DRels K W' l xs := by
    intro W' M lk m h
    have h1 := DRel.lk (K := K) lk (.obj j) (.ref a) (by simp only [DRel]; exact ⟨a, rfl, ha⟩)
    simp only [DRel] at h1
    obtain ⟨b, e, hb⟩ := h1
    cases e
    obtain ⟨xs, e1, e2, _⟩ := m.obj j a _ hb (gd_at h)
    exact ⟨xs, SqL.of e1, e2⟩
  refine ⟨fun i W' M lk m h hi => ?_, fun W' M lk m h => ?_, fun i d W' M x H' e lk m h y => ?_⟩
  · obtain ⟨xs, q, dr⟩ := key W' M lk m h
    obtain ⟨v, ev, _⟩ := dr.get (List.getElem?_eq_getElem hi)
    exact ⟨xs, v, q, ev⟩
  · obtain ⟨xs, q, dr⟩ := key W' M lk m h
    exact ⟨xs, q, Nat.le_of_eq dr.length.symm⟩
  · obtain ⟨xs, q, dr⟩ := key W' M lk m h
    obtain ⟨v, ev, dv⟩ := dr.get e
    have e2 := y.2 xs q
    rw [ev] at e2
    cases e2
    exact ⟨W', y.1.symm, Le.refl _, m, dv⟩
theorem ok_iseq {tg e : Expr} {m : ME} (h : OkE T C e m) : OkI T C tg e (mSeqI m) := by
  intro n X wx q
  refine PI.of (PI.or (pi_list (h n X wx q)) (pi_tup (h n X wx q))) fun s H R w => ?_
  obtain ⟨mu, M, r, mr, sr, sat⟩ := w
  unfold mSeqI at sat
  cases e : m (callF T n) r M with
  | bad => rw [e] at sat; exact sat.elim
  | exc x M1 =>
    rw [e] at sat
    refine .inl ⟨mu, M, r, mr, sr, ?_⟩
    show Sat _ _ (m (callF T n) r M) _
    rw [e]
    exact sat
  | ok d M1 =>
    rw [e] at sat
    simp only [Res.bind_ok] at sat
    cases d with
    | tup l =>
      refine .inr ⟨mu, M, r, mr, sr, ?_⟩
      show Sat _ _ (m (callF T n) r M) _
      rw [e]
      intro W1 l1 m1 v dv
      simp only [DRel] at dv
      obtain ⟨a, xs, rfl, t, dr⟩ := dv
      exact ⟨a, rfl, ⟨xs, t.sq⟩, sat W1 l1 m1 _ (walk_at walk_tup (fun W' l' => (t.lk l').sq) dr)⟩
    | lst l =>
      refine .inl ⟨mu, M, r, mr, sr, ?_⟩
      show Sat _ _ (m (callF T n) r M) _
      rw [e]
      intro W1 l1 m1 v dv
      simp only [DRel] at dv
      obtain ⟨a, xs, rfl, t, dr⟩ := dv
      exact ⟨a, rfl, ⟨xs, t.sq⟩, sat W1 l1 m1 _ (walk_at walk_list (fun W' l' => (t.lk l').sq) dr)⟩
    | obj j =>
      refine .inl ⟨mu, M, r, mr, sr, ?_⟩
      show Sat _ _ (m (callF T n) r M) _
      rw [e]
      intro W1 l1 m1 v dv
      cases ej : M1[j]? with
      | none => simp only [ej] at sat; exact sat.elim
      | some o =>
        cases o with
        | dct _ l => simp only [ej] at sat; exact sat.elim
        | dks _ l => simp only [ej] at sat; exact sat.elim
        | ins _ l => simp only [ej] at sat; exact sat.elim
        | lst l =>
          simp only [ej] at sat
          simp only [DRel] at dv
          obtain ⟨a, rfl, ha⟩ := dv
          obtain ⟨xs, e3, r3, _⟩ := m1.obj j a _ ha ej
          exact ⟨a, rfl, ⟨xs, SqL.of e3⟩, sat W1 l1 m1 _ (walk_obj ha)⟩
    | _ => exact sat.elim
/-- range -/
def rngD (lo : Int) (n : Nat) : List D := (List.range n).map fun i => .int (lo + (i : Nat))
theorem rng_len {lo : Int} {n : Nat} : (rngD lo n).length = n := by simp [rngD]
theorem walk_rng {K : Kb} {W : Wd} {lo : Int} {n : Nat} : WalkOk K W none (rngD lo n) (Itr lo n) where
  go := fun i W' M _ _ _ hi => by rw [rng_len] at hi; exact hi
  stop := fun W' M _ _ _ => by rw [rng_len]; exact Nat.le_refl n
  yld := fun i d W' M x H' e _ m _ y => by
    obtain ⟨e1, e2⟩ := y
    subst e1 e2
    have hi : i < n := by
      by_cases q : i < n
      · exact q
      · rw [List.getElem?_eq_none (by rw [rng_len]; omega)] at e; cases e
    have : d = .int (lo + (i : Nat)) := by
      simp only [rngD, List.getElem?_map, List.getElem?_range hi, Option.map_some, Option.some.injEq] at e
      exact e.symm
    subst this
    exact ⟨W', rfl, Le.refl _, m, rfl⟩
def rngOk (j : Int) : Bool := Nat.ble j.natAbs 4611686018427387903
theorem rngOk_iff {j : Int} (h : rngOk j = true) : -(2 ^ 62) ≤ j ∧ j < 2 ^ 62 := by
  have e : (2 : Int) ^ 62 = 4611686018427387904 := by decide +kernel
  have h' := Nat.le_of_ble_eq_true h
  rw [e]
  omega
theorem rngOk_of {j : Int} (h0 : 0 ≤ j) (h1 : j ≤ 1000000) : rngOk j = true := Nat.ble_eq_true_of_le (by omega)
def mRng1 (ms : MA) : MI := fun F r M => (ms F r M).bind fun ds M1 => match ds with
  | [.int j] => if rngOk j = true then .ok (rngD 0 j.toNat, none) M1 else .bad
  | _ => .bad
def mRng2 (ms : MA) : MI := fun F r M => (ms F r M).bind fun ds M1 => match ds with
  | [.int i, .int j] => if (rngOk i && rngOk j) = true then .ok (rngD i (j - i).toNat, none) M1 else .bad
  | _ => .bad
theorem ok_irng1 {tg a : Expr} {p pos : Pos} {ms : MA} {x : Str} (hx' : x = "range") (hx : x ∈ T.blt) (hg : C.sc.names.lookup x = some .globalImplicit) (hs : noStar a = true) (h : OkA T C [a] ms) : OkI T C tg (.Call (.Name x p) [a] [] pos) (mRng1 ms) := by
  intro n X wx q
  subst hx'
  refine PI.of (pi_range1 (gl_of q hg) (q.blt _ hx) (h n X wx q) (noStar_each hs)) fun s H R w => ?_
  obtain ⟨mu, M, r, mr, sr, sat⟩ := w
  refine ⟨mu, M, r, mr, sr, sat.bind.imp fun ds M1 W1 l1 m1 s1 vs dvs => ?_⟩
  split at s1
  · rename_i j
    obtain ⟨hc, s1⟩ := sat_ite s1
    have hc := rngOk_iff hc
    obtain ⟨v, rfl, dv⟩ := rels1 dvs
    cases (show v = _ from dv)
    exact ⟨j, rfl, hc.1, hc.2, s1.ok m1 _ walk_rng⟩
  · exact s1.elim
theorem ok_irng2 {tg a b : Expr} {p pos : Pos} {ms : MA} {x : Str} (hx' : x = "range") (hx : x ∈ T.blt) (hg : C.sc.names.lookup x = some .globalImplicit) (hs : noStar a = true) (hs2 : noStar b = true) (h : OkA T C [a, b] ms) : OkI T C tg (.Call (.Name x p) [a, b] [] pos) (mRng2 ms) := by
  intro n X wx q
  subst hx'
  refine PI.of (pi_range2 (gl_of q hg) (q.blt _ hx) (h n X wx q) (by rw [noStar_each hs, noStar_each hs2]; rfl) (noStar_each hs2)) fun s H R w => ?_
  obtain ⟨mu, M, r, mr, sr, sat⟩ := w
  refine ⟨mu, M, r, mr, sr, sat.bind.imp fun ds M1 W1 l1 m1 s1 vs dvs => ?_⟩
  split at s1
  · rename_i i j
    obtain ⟨hc, s1⟩ := sat_ite s1
    rw [Bool.and_eq_true] at hc
    have hc1 := rngOk_iff hc.1
    have hc2 := rngOk_iff hc.2
    obtain ⟨v, u, rfl, dv, du⟩ := rels2 dvs
    cases (show v = _ from dv)
    cases (show u = _ from du)
    exact ⟨i, j, rfl, ⟨hc1.1, hc1.2, hc2.1, hc2.2⟩, s1.ok m1 _ walk_rng⟩
  · exact s1.elim
/-- pairs: enumerate, zip -/
theorem walk_pair {K : Kb} {W : Wd} {ds : List D} {n : Nat} {J : It} {G : Hp → Prop} {xs ys : Nat → Option V} (w : Walk J n G (YPair xs ys)) (hG : ∀ W', Lk W W' → G W'.H) (hn : ds.length = n)
    (r : ∀ i d v u, ds[i]? = some d → xs i = some v → ys i = some u → ∃ a b, d = .tup [a, b] ∧ DRel K W a v ∧ DRel K W b u) : WalkOk K W none ds J where
  go := fun i W' M l m _ hi => w.goes i _ (by rw [← hn]; exact hi) (hG W' l)
  stop := fun W' M l m _ => by rw [hn]; exact w.stops _ (hG W' l)
  yld := fun i d W' M x H' e l m _ y => by
    have hi : i < n := by
      by_cases q : i < n
      · exact q
      · rw [List.getElem?_eq_none (by omega)] at e; cases e
    obtain ⟨p, v, u, rfl, np, rfl, ev, eu⟩ := w.yields i _ x H' hi (hG W' l) y
    obtain ⟨a, b, rfl, da, db⟩ := r i d v u e ev eu
    obtain ⟨le, m'⟩ := m.laid np (.tup [v, u])
    refine ⟨_, rfl, le, m', ?_⟩
    simp only [DRel]
    refine ⟨p, [v, u], rfl, .inl ⟨.inl upd_same, m.fresh np⟩, ?_⟩
    simp only [DRels]
    exact ⟨v, [u], rfl, DRel.lk (l.trans le.toLk) a v da, u, [], rfl, DRel.lk (l.trans le.toLk) b u db, rfl⟩
def enumD : Nat → List D → List D
  | _, [] => []
  | k, d :: ds => .tup [.int (k : Nat), d] :: enumD (k + 1) ds
theorem enumD_len : ∀ (k : Nat) (ds : List D), (enumD k ds).length = ds.length
  | _, [] => rfl
  | k, d :: ds => by simp [enumD, enumD_len (k + 1) ds]
theorem enumD_get : ∀ (k : Nat) (ds : List D) (i : Nat) (e : D), (enumD k ds)[i]? = some e → ∃ d, ds[i]? = some d ∧ e = .tup [.int ((k + i : Nat) : Int), d]
  | _, [], _, _, h => by simp [enumD] at h
  | k, d :: ds, 0, e, h => by simp [enumD] at h; exact ⟨d, rfl, h.symm⟩
  | k, d :: ds, i + 1, e, h => by
    obtain ⟨d', h1, h2⟩ := enumD_get (k + 1) ds i e (by simpa [enumD] using h)
    refine ⟨d', by simpa using h1, ?_⟩
    rw [h2]
    have : k + 1 + i = k + (i + 1) := by omega
    rw [this]

/-! ### for -/
def forG (gd : Gd) (g : MG) (b : MS) (F : FT) : List D → EV → Mem → Res Fl
  | [], r, M => if Gd.ok gd M = true then .ok (.next r) M else .bad
  | d :: ds, r, M => if Gd.ok gd M = true then (g F d r M).bind fun r1 M1 => (b F r1 M1).bind fun f M2 => match f with
    | .next r2 => forG gd g b F ds r2 M2
    | .cont r2 => forG gd g b F ds r2 M2
    | .brk r2 => .ok (.next r2) M2
    | .ret d => .ok (.ret d) M2
    | .rse x r2 => .ok (.rse x r2) M2 else .bad
def mFor (mi : MI) (g : MG) (b : MS) : MS := fun F r M => (mi F r M).toS r fun p M1 => forG p.2 g b F p.1 r M1
def noSet : Expr → Bool
  | .Set .. => false
  | _ => true
theorem noSet_it {e : Expr} {env : Env} (h : noSet e = true) : ∀ x, foldedSetIterable e env x = pure x := by
  intro x
  cases e <;> first | rfl | cases h
theorem drop_cons {α : Type} {l : List α} {i : Nat} (h : i < l.length) : l.drop i = l[i] :: l.drop (i + 1) := List.drop_eq_getElem_cons h
theorem ok_for (hq : C.calm = true) {tg iter : Expr} {body : List Stmt} {pos} {mi : MI} {g : MG} {mb : MS} (hs : noSet iter = true) (hi : OkI T C tg iter mi) (hg : OkG T C tg g) (hb : OkSs T C body mb) : OkS T C (.For tg iter body [] pos) (mFor mi g mb) := by
  intro n X wx h
  refine PS.of (ps_for h.pas (h.calm.trans hq) (hi n X wx h) (hg n X wx h) (hb n X wx h) (noSet_it hs)) fun Dn s H q => ?_
  obtain ⟨mu, M, r, mr, sr, sat⟩ := q
  refine ⟨mu, M, r, mr, sr, (Sat.toS sat sr).imp fun p M1 W1 l1 m1 s1 J wk => ?_⟩
  obtain ⟨ds, gd⟩ := p
  refine ⟨fun i m s H => m = ds.length - i ∧ i ≤ ds.length ∧ At (kb X) s H fun mu r M => Lk W1 ⟨H, mu⟩ ∧ Sat (kb X).no ⟨H, mu⟩ (forG gd g mb (callF T n) (ds.drop i) r M) (PF (kx X wx) Dn),
    ⟨ds.length, by simp, Nat.zero_le _, W1.mu, M1, r, m1, sr.le l1, Lk.refl _, s1⟩, ?_⟩
  rintro i m s2 H2 ⟨rfl, hle, mu2, M2, r2, mr2, sr2, lk2, sat2⟩
  by_cases hlt : i < ds.length
  · rw [drop_cons hlt] at sat2
    obtain ⟨hgd, sat2⟩ := sat_ite sat2
    refine .inr ⟨wk.go i _ _ lk2 mr2 hgd hlt, fun s H => (i + 1 ≤ ds.length ∧ At (kb X) s H fun mu r M => Lk W1 ⟨H, mu⟩ ∧ Sat (kb X).no ⟨H, mu⟩ (forG gd g mb (callF T n) (ds.drop (i + 1)) r M) (PF (kx X wx) Dn)), fun s' H' q' => ⟨ds.length - (i + 1), by omega, rfl, q'.1, q'.2⟩, fun x H' y => ?_⟩
    obtain ⟨W3, rfl, le3, mr3, dx⟩ := wk.yld i ds[i] _ M2 x H' (List.getElem?_eq_getElem hlt) lk2 mr2 hgd y
    refine ⟨W3.mu, M2, r2, mr3, sr2.le le3, ds[i], dx, (Sat.bind (Sat.le sat2 le3)).imp fun r4 M4 W4 l4 m4 s4 s' sr' => ?_⟩
    refine ⟨W4.mu, M4, r4, m4, sr', (Sat.bind s4).imp fun f M5 W5 l5 m5 s5 => ?_⟩
    have lk5 : Lk W1 W5 := lk2.trans ((le3.trans (l4.trans l5)).toLk)
    cases f with
    | next r5 => exact fun s' sr' => ⟨hlt, W5.mu, M5, r5, m5, sr', lk5, s5⟩
    | cont r5 => exact fun s' sr' => ⟨hlt, W5.mu, M5, r5, m5, sr', lk5, s5⟩
    | brk r5 => exact Sat.ok (show Sat _ _ (Res.ok (Fl.next r5) M5) _ from s5) m5
    | ret d => exact Sat.ok (show Sat _ _ (Res.ok (Fl.ret d) M5) _ from s5) m5
    | rse x r5 => exact Sat.ok (show Sat _ _ (Res.ok (Fl.rse x r5) M5) _ from s5) m5
  · have e : i = ds.length := by omega
    subst e
    rw [List.drop_length] at sat2
    obtain ⟨hgd, sat2⟩ := sat_ite sat2
    refine .inl ⟨wk.stop _ _ lk2 mr2 hgd, ?_⟩
    exact Sat.ok (show Sat _ _ (Res.ok (Fl.next r2) M2) _ from sat2) mr2 s2 sr2
end RI

namespace PySem
open Sem (wp)
open AutoSeq1 (wpAny_loadPart')
theorem meets_enumerate_newT (l : Addr) (items : Array Value) (n : Nat) (dct : Option Addr) (sl : Array (Option Value)) :
    Meets (Builtin.«enumerate.__new__» ⟨[.type "enumerate", .ref l], []⟩) (fun _ R s => s.heap.get? l = some { cls := .type "tuple", dict := dct, data := .seq items n, slots := sl } ∧
      R (.ok (.ret (.ref (s.heap.push { cls := .type "tuple_iterator", data := .fields #[.ref l, .int 0 0] }).objs.size)))
        { s with heap := (s.heap.push { cls := .type "tuple_iterator", data := .fields #[.ref l, .int 0 0] }).push { cls := .type "enumerate", data := .fields #[.none, .bool false, .ref s.heap.objs.size, rawInt 0, .none, .none] } }) :=
  .of_wp fun prog w A R s h => by
    obtain ⟨hp, g, d, tk, os⟩ := s; obtain ⟨hl, h⟩ := h
    have hsub := sub_enumerate
    have hL : Heap.IsTuple (Shared.heap ⟨hp, g, d, tk, os⟩) l items := ⟨_, hl, rfl, n, rfl⟩
    wp_walk using wpAny_loadPart' hl
    refine wpAny_stack_any fun st => wpAny_pure ?_
    split
    · rename_i c _ _ _ _ _
      cases (c == Value.type "enumerate")
      · wp_walk using wpAny_loadPart' hl, wpAny_pyIter_tuple hL
        exact ⟨_, rfl, h⟩
      · wp_walk using wpAny_loadPart' hl, wpAny_pyIter_tuple hL
        exact ⟨_, rfl, h⟩
    · wp_walk using wpAny_loadPart' hl, wpAny_pyIter_tuple hL
      exact ⟨_, rfl, h⟩
theorem wpAny_pyNext_enum_endT {prog : Program} {w : World} {A : Around} {E : Value → Shared → Prop} {s : Shared} {e it l : Addr} {i : Nat} {items : Array Value} {old : Value} {Q : Option Value → Shared → Prop} (hh : A.handled = none)
    (he : IsEnum s.heap e it i old) (hit : s.heap.IsTupleIter it l i) (hl : s.heap.IsTuple l items) (hx : items[i]? = none)
    (hQ : ∀ h', Heap.ExtBut it s.heap h' → Q none { s with heap := h' }) : wpAny (model prog w) A (pyNext (.ref e)) Q E s := by
  have hT : s.TypeIs (.ref e) "enumerate" := ⟨_, he, rfl⟩
  unfold pyNext
  refine wpAny_bind (wpAny_attempt (wpAny_callSpecial?_slot (name := Str.ofString "__next__") hT F.slot_enumerate_next
    (wpAny_call_entry F.slot_enumerate_next hT F.entry_enumerate_next ?_ (F.args_enumerate_next_1 _))))
  show wpAny _ _ (field (.ref e) 2 >>= _) _ _ _
  refine wpAny_bind (wpAny_field he rfl (x := .ref it) rfl ?_)
  refine wpAny_bind (wpAny_nextOf_tuple_end hh hit hl hx fun h' x he' hx' => ?_)
  obtain ⟨o, ho, hc⟩ := hx'
  refine wpAny_bind (wpAny_isInstance (T := "StopIteration") (b := true) ⟨o, ho, hc⟩ isSubtype_stop ?_)
  exact wpAny_pure (hQ _ he')
theorem call_enumerate_tuple {prog : Program} {w : World} {A : Around} {E : Value → Shared → Prop} {s : Shared} {l : Addr} {items : Array Value} {Q : Value → Shared → Prop} (hL : s.heap.IsTuple l items)
    (h : ∀ h', IsEnum h' (s.heap.objs.size + 1) s.heap.objs.size 0 .none → h'.IsTupleIter s.heap.objs.size l 0 → h'.objs.size = s.heap.objs.size + 2 →
      (∀ b o, s.heap.get? b = some o → h'.get? b = some o) → Q (.ref (s.heap.objs.size + 1)) { s with heap := h' }) :
    wpAny (model prog w) A (call (.type "enumerate") [.ref l]) Q E s := by
  obtain ⟨⟨c, dct, dt, sl⟩, hl, hc, n, hd⟩ := hL
  replace hc : c = .type "tuple" := hc
  replace hd : dt = .seq items n := hd
  subst hc hd
  refine callType_new F.called_enumerate (by decide) (F.typeCall_enumerate_1 _) (F.newCall_enumerate_1 _) (fun obj => F.args_object_init_2 obj _) F.entry_enumerate_new
    (meets_enumerate_newT l items n dct sl) ⟨hl, ?_⟩
  have hz : (s.heap.push { cls := .type "tuple_iterator", data := .fields #[.ref l, .int 0 0] }).objs.size = s.heap.objs.size + 1 := Heap.size_push ..
  show _ ∧ _
  rw [hz]
  have he : IsEnum ((s.heap.push { cls := .type "tuple_iterator", data := .fields #[.ref l, .int 0 0] }).push
      { cls := .type "enumerate", data := .fields #[.none, .bool false, .ref s.heap.objs.size, rawInt 0, .none, .none] }) (s.heap.objs.size + 1) s.heap.objs.size 0 .none := by
    have := Heap.get?_push_size (s.heap.push { cls := .type "tuple_iterator", data := .fields #[.ref l, .int 0 0] }) (o := { cls := .type "enumerate", data := .fields #[.none, .bool false, .ref s.heap.objs.size, rawInt 0, .none, .none] }) rfl
    rw [hz] at this; exact this
  refine ⟨⟨_, he, rfl⟩, h _ he ⟨_, Heap.get?_push_of_some _ (Heap.get?_push_size _ rfl), rfl, rfl⟩ (by rw [Heap.size_push, hz]) fun b o x => Heap.get?_push_of_some _ (Heap.get?_push_of_some _ x)⟩
end PySem
namespace RI
open PySem PySem.Spec PyProof.Rows L2
variable {T : Tb} {C : CC}
def IteT (K : PySem.W.Frag) (a : Addr) : It :=
  ⟨fun i H => ∃ (xs : List V) (x : V), SqT K H a xs ∧ xs[i]? = some x, fun i H v H' => ∃ T x, v = .ref T ∧ H T = none ∧ H' = upd H T (.tup [.int (i : Nat), x]) ∧ ∀ xs, SqT K H a xs → xs[i]? = some x, fun i H => ∃ xs : List V, SqT K H a xs ∧ xs.length ≤ i⟩
theorem enum_ne {h : Heap} {e it a : Addr} {k : Int} {old : Value} {its : Array Value} (he : IsEnum h e it k old) (p : h.IsTuple a its) : e ≠ a := by
  rintro rfl
  obtain ⟨o, ho, hc, _⟩ := p
  have he : h.get? e = some _ := he
  rw [he] at ho
  cases ho
  injection hc with hc
  exact absurd hc (by decide)
theorem turn_enumT {P : Program} {w : World} {K : PySem.W.Frag} {elts : List Expr} {kk : Nat} {tpos : Pos} (a e it : Addr) :
    Turn P w K (.Tuple elts kk tpos) (IteT K a) [e, it] e (fun i h => (∃ old, IsEnum h e it ((i : Nat) : Int) old) ∧ h.IsTupleIter it a i ∧ e ≠ it) where
  mem := by simp
  obj := fun i h st b hb => by
    obtain ⟨⟨old, he⟩, ⟨o, ho, hc, hd⟩, _⟩ := st
    have e' : b = e ∨ b = it := by simpa using hb
    rcases e' with z | z
    · rw [z]; exact ⟨_, he, fun v q => nomatch q⟩
    · rw [z]; exact ⟨o, ho, fun v q => by rw [hd] at q; cases q⟩
  keep := fun i h h' st k => let ⟨⟨old, he⟩, hi, hne⟩ := st; ⟨⟨old, k e (by simp) _ he⟩, hi.at fun o q => k it (by simp) o q, hne⟩
  item := by
    intro X hP hw hK hc i pins s σ H E I hf st hg
    subst hP hw hK
    obtain ⟨⟨old, he⟩, hit, hne⟩ := st
    obtain ⟨xs, x, hq, hx⟩ := hg
    obtain ⟨its, rv, p, hz⟩ := I.tuple hq
    obtain ⟨u, hu, ru⟩ := rv.get hx
    have hT : s.heap.IsTuple a its.toArray := p
    have hel : e < s.heap.objs.size := Heap.lt_size he
    have hil : it < s.heap.objs.size := by obtain ⟨_, q, _⟩ := hit; exact Heap.lt_size q
    have nai : a ≠ it := by
      rintro rfl
      obtain ⟨o, ho, hc1, _⟩ := hT
      obtain ⟨o', ho', hc2, _⟩ := hit
      rw [ho] at ho'; cases ho'; rw [hc1] at hc2; injection hc2 with hc2; exact absurd hc2 (by decide)
    have ili : i < its.toArray.size := by
      have hl := rv.length
      have : i < xs.length := by
        by_cases q : i < xs.length
        · exact q
        · rw [List.getElem?_eq_none (by omega)] at hx; cases hx
      simp only [List.size_toArray]; omega
    refine wpAny_pyNext_enum_itemD (Draws.tuple (prog := X.prog) (w := X.w) (A := X.A.in1) (I.ok.hd hc) it a nai its.toArray) he ⟨hit, hT⟩ ili hne (by simp only [List.mem_cons, List.not_mem_nil, or_false, not_or]; exact ⟨hne, enum_ne he hT⟩) fun u' h' tk hP ho hst' hT' hsz hk => ?_
    have hu' : u' = u := by
      have hP : its.toArray[i]? = some u' := hP
      rw [List.getElem?_toArray, hu] at hP
      exact (Option.some.inj hP).symm
    subst hu'
    refine ⟨_, rfl, wpAny_letOwnedTupleGo_enum (s := { s with heap := h', toks := tk + 1 }) ho fun h'' he' sb => ?_⟩
    have hT2 : h''.get? s.heap.objs.size = some { cls := .type "tuple", data := .seq #[.int i tk, u'] } := (sb.2 _ (Nat.ne_of_gt hel)).trans hT'
    have new : ObjOk X.prog X.w (upd H s.heap.objs.size (.tup [.int (i : Nat), x])) h'' s.heap.objs.size (.tup [.int (i : Nat), x]) :=
      ⟨by show 2 ≤ sizeLine; decide, [.int i tk, u'], .cons ⟨_, rfl⟩ (.cons ru .nil), ⟨_, hT2, rfl, _, rfl⟩⟩
    have I1 : Inv X pins σ (upd H s.heap.objs.size (.tup [.int (i : Nat), x])) { s with heap := h'', toks := tk + 1 } :=
      I.turnedNew (ch := [e, it]) (fun b ob hb q => (sb.2 b (fun z => hb (by simp [z]))).trans (hk b ob (fun z => hb (by simp [z])) (fun z => hb (by simp [z])) q)) hf (Nat.le_refl _) new
    refine ⟨.ref s.heap.objs.size, _, I1, rfl, ⟨_, x, rfl, I.hok.fresh (Nat.le_refl _), rfl, fun ys hy => by rw [I.tuple_inj hy hq]; exact hx⟩, ⟨⟨u', ?_⟩, hst'.1.at fun o q => (sb.2 it (Ne.symm hne)).trans q, hne⟩, fun b hb => ?_⟩
    · have e1 : ((i + 1 : Nat) : Int) = (i : Int) + 1 := by omega
      rw [e1]; exact he'
    · have hb' : b < s.heap.objs.size := by
        have e' : b = e ∨ b = it := by simpa using hb
        rcases e' with z | z
        · rw [z]; exact hel
        · rw [z]; exact hil
      rw [upd_ne (Nat.ne_of_lt hb')]
      exact (hf b hb).1
  done := by
    intro X hP hw hK hc i pins s σ H E I hf st hg
    subst hP hw hK
    obtain ⟨⟨old, he⟩, hit, hne⟩ := st
    obtain ⟨xs, hq, hx⟩ := hg
    obtain ⟨its, rv, p, hz⟩ := I.tuple hq
    have hT : s.heap.IsTuple a its.toArray := p
    obtain ⟨f0, f1, f2, f3, f4, f5⟩ := hf it (by simp)
    have hl := rv.length
    exact wpAny_pyNext_enum_endT (I.ok.hd hc) he hit hT (by simp; omega) fun h' eb => ⟨rfl, I.turned (t' := s.toks) (fun b o hb q => eb b o hb q) f0 f1 f3 f4 f5⟩
  self := fun A i s Q E st h => let ⟨⟨_, he⟩, _⟩ := st; wpAny_pyIter_enum he h
def iEnumT (K : PySem.W.Frag) (ta : TA) : TI := fun σ H R => ta σ H fun vs H1 => ∃ a xs, vs = [.ref a] ∧ SqT K H1 a xs ∧ R (IteT K a) H1
theorem pi_enumT {X : Cx} {e : Expr} {ta : TA} {p pos tpos : Pos} {elts : List Expr} {kk : Nat} (hg : Gl X "enumerate") (hm : X.mg "enumerate" = none) (ha : PA X [e] ta) (hs : starEach [e] X.env = [(false, eval e X.env)]) :
    PI X (.Tuple elts kk tpos) (.Call (.Name "enumerate" p) [e] [] pos) (iEnumT X.K ta) := by
  refine ⟨fun pins s σ H R I h => ?_⟩
  refine Call_ (ld_blt I hg hm boot_enumerate (PyProof.Rows.callWith_type1 (thn (ha.run pos pins s σ H _ I h) fun us s1 ⟨vs, H1, I1, r1, q1⟩ => ?_) hs rfl))
  obtain ⟨a, xs, ex, hq, q⟩ := q1
  subst ex
  cases r1 with
  | cons r rr =>
    cases rr
    cases r
    obtain ⟨its, rv, p', hz⟩ := I1.tuple hq
    refine call_enumerate_tuple p' fun h' he hit hsz hk => wpAny_pyIter_enum he ?_
    have I2 : Inv X pins σ H1 { s1 with heap := h' } := I1.kept (t' := s1.toks) hk
    refine ⟨s1.heap.objs.size + 1, [s1.heap.objs.size + 1, s1.heap.objs.size], _, _, H1, rfl, I2, turn_enumT a (s1.heap.objs.size + 1) s1.heap.objs.size, ⟨⟨.none, he⟩, hit, Nat.succ_ne_self _⟩, fun b hb => ?_, q⟩
    have e' : b = s1.heap.objs.size + 1 ∨ b = s1.heap.objs.size := by simpa using hb
    have hle : s1.heap.objs.size ≤ b := by
      rcases e' with z | z
      · rw [z]; exact Nat.le_add_right _ _
      · rw [z]; exact Nat.le_refl _
    exact I1.fpOk hle (I1.hok.fresh hle)
theorem walk_enumT {K : PySem.W.Frag} {a : Addr} {xs : List V} : Walk (IteT K a) xs.length (fun H => SqT K H a xs) (YPair (fun i => some (.int (i : Nat))) (fun i => xs[i]?)) := by
  refine ⟨fun i _ hi q => ⟨xs, xs[i], q, by simp [hi]⟩, fun _ q => ⟨xs, q, Nat.le_refl _⟩, fun i H x H' hi q y => ?_⟩
  obtain ⟨T, v, e1, e2, e3, e4⟩ := y
  exact ⟨T, _, v, e1, e2, e3, rfl, e4 xs q⟩
def mEnum (ms : MA) : MI := fun F r M => (ms F r M).bind fun ds M1 => match ds with
  | [.tup l] => .ok (enumD 0 l, none) M1
  | [.lst l] => .ok (enumD 0 l, none) M1
  | _ => .bad
theorem enum_pairs {K : Kb} {W : Wd} {l : List D} {xs : List V} (dr : DRels K W l xs) : ∀ i d v u, (enumD 0 l)[i]? = some d → (some (V.int (i : Nat))) = some v → xs[i]? = some u → ∃ a b, d = .tup [a, b] ∧ DRel K W a v ∧ DRel K W b u := by
  intro i d v u e ev eu
  obtain ⟨d', h1, h2⟩ := enumD_get 0 l i d e
  obtain ⟨w, ew, dw⟩ := dr.get h1
  rw [eu] at ew; cases ew
  cases ev
  refine ⟨_, _, h2, ?_, dw⟩
  show V.int _ = V.int _
  simp
theorem ok_ienum {elts : List Expr} {kk : Nat} {tpos p pos : Pos} {e : Expr} {ms : MA} {x : Str} (hx' : x = "enumerate") (hx : x ∈ T.blt) (hg : C.sc.names.lookup x = some .globalImplicit) (hs : noStar e = true) (h : OkA T C [e] ms) : OkI T C (.Tuple elts kk tpos) (.Call (.Name x p) [e] [] pos) (mEnum ms) := by
  intro n X wx q
  subst hx'
  refine PI.of (PI.or (pi_enum (gl_of q hg) (q.blt _ hx) (h n X wx q) (noStar_each hs)) (pi_enumT (gl_of q hg) (q.blt _ hx) (h n X wx q) (noStar_each hs))) fun s H R w => ?_
  obtain ⟨mu, M, r, mr, sr, sat⟩ := w
  unfold mEnum at sat
  cases e : ms (callF T n) r M with
  | bad => rw [e] at sat; exact sat.elim
  | exc x M1 =>
    rw [e] at sat
    refine .inl ⟨mu, M, r, mr, sr, ?_⟩
    show Sat _ _ (ms (callF T n) r M) _
    rw [e]
    exact sat
  | ok ds M1 =>
    rw [e] at sat
    simp only [Res.bind_ok] at sat
    split at sat
    · rename_i l
      refine .inr ⟨mu, M, r, mr, sr, ?_⟩
      show Sat _ _ (ms (callF T n) r M) _
      rw [e]
      intro W1 l1 m1 vs dvs
      obtain ⟨v, rfl, dv⟩ := rels1 dvs
      simp only [DRel] at dv
      obtain ⟨a, xs, rfl, t, dr⟩ := dv
      exact ⟨a, xs, rfl, t.sq, sat W1 l1 m1 _ (walk_pair walk_enumT (fun W' l' => (t.lk l').sq) (by rw [enumD_len, dr.length]) (enum_pairs dr))⟩
    · rename_i l
      refine .inl ⟨mu, M, r, mr, sr, ?_⟩
      show Sat _ _ (ms (callF T n) r M) _
      rw [e]
      intro W1 l1 m1 vs dvs
      obtain ⟨v, rfl, dv⟩ := rels1 dvs
      simp only [DRel] at dv
      obtain ⟨a, xs, rfl, t, dr⟩ := dv
      exact ⟨a, xs, rfl, t.sq, sat W1 l1 m1 _ (walk_pair walk_enum (fun W' l' => (t.lk l').sq) (by rw [enumD_len, dr.length]) (enum_pairs dr))⟩
    · exact sat.elim
end RI

namespace RI
open PySem PySem.Spec PyProof.Rows L2
variable {T : Tb} {C : CC}
/-! ### dicts that are walked: they are locked for ever -/
def ItR (d : Addr) (o : Obj) (u : HO) (vs : List V) : It := ⟨fun i H => H d = some (.frz o u) ∧ i < vs.length, fun i H x H' => H' = H ∧ vs[i]? = some x, fun i H => H d = some (.frz o u) ∧ vs.length ≤ i⟩
theorem walk_rk {d : Addr} {o : Obj} {u : HO} {vs : List V} : Walk (ItR d o u vs) vs.length (fun H => H d = some (.frz o u)) (YAt vs) := ⟨fun _ _ hi h => ⟨h, hi⟩, fun _ h => ⟨h, Nat.le_refl _⟩, fun _ _ _ _ _ _ y => y⟩
/-- the entries of a dict object, as they are told by u: its keys, its values -/
def DKV (P : Program) (w : World) (a : Addr) (u : HO) (ks vs : List V) : Prop := ∀ (H : Hp) (h : Heap) (o : Obj), h.get? a = some o → ObjOk P w H h a u → (a == sysModules) = false ∧ o.ExactDict ∧ ∃ es ep, o.data = .dict es ep ∧ es.size = ks.length ∧ es.size = vs.length ∧ (∀ (i : Nat) (x : V) (hi : i < es.size), ks[i]? = some x → RelV x es[i].key) ∧ ∀ (i : Nat) (x : V) (hi : i < es.size), vs[i]? = some x → RelV x es[i].val
section
variable {P : Program} {w : World} {K : PySem.W.Frag} {tg : Expr} {d : Addr} {o : Obj} {u : HO} {es : Array DictEntry} {ep : Nat} {vs : List V}
theorem raw_of {X : Cx} {pins : List (Addr × Obj)} {σ : L2.St} {H : Hp} {s : Shared} (I : Inv X pins σ H s) (hx : o.ExactDict) (hod : o.data = .dict es ep) (hd : H d = some (.frz o u)) : s.heap.DictRaw d es ep := ⟨o, (I.hok d _ hd).1, hx, hod⟩
theorem turn_rk (hx : o.ExactDict) (hod : o.data = .dict es ep) (hsz : es.size = vs.length) (hv : ∀ (i : Nat) (x : V) (hi : i < es.size), vs[i]? = some x → RelV x es[i].key) (it : Addr) : Turn P w K tg (ItR d o u vs) [it] it (fun i h => h.IsKeyIter it d i es.size ep) where
  mem := List.mem_singleton.mpr rfl
  obj := fun i h st b hb => by
    cases (List.mem_singleton.mp hb)
    obtain ⟨oi, e, c, dd⟩ := st
    exact ⟨oi, e, fun v z => by rw [dd] at z; cases z⟩
  keep := fun i h h' st k => st.at fun oi e => k it (List.mem_singleton.mpr rfl) oi e
  item := by
    intro X eP ew eK hc i pins s σ H E I hf st hg
    subst eP ew eK
    have ff := hf it (List.mem_singleton.mpr rfl)
    have hi : i < es.size := by rw [hsz]; exact hg.2
    have hx' : vs[i]? = some (vs[i]'hg.2) := List.getElem?_eq_getElem hg.2
    refine wpAny_pyNext_keys_item_raw st (raw_of I hx hod hg.1) hi fun h' st' sb => ?_
    have I1 : Inv X pins σ H { s with heap := h' } := I.turned (t' := s.toks) (fun b ob hb e => (sb.2 b hb).trans e) ff.1 ff.2.1 ff.2.2.2.1 ff.2.2.2.2.1 ff.2.2.2.2.2
    obtain ⟨oi, e, c, dd⟩ := id st'
    exact ⟨_, rfl, go_of (s := { s with heap := h' }) e c dd (by decide) ⟨vs[i]'hg.2, H, I1, hv i _ hi hx', ⟨rfl, hx'⟩, st', fun b hb => (hf b hb).1⟩⟩
  done := by
    intro X eP ew eK hc i pins s σ H E I hf st hg
    subst eP ew eK
    have ff := hf it (List.mem_singleton.mpr rfl)
    exact wpAny_pyNext_keys_end_raw (I.ok.hd hc) st (raw_of I hx hod hg.1) (by rw [hsz]; exact hg.2) fun h' eb => ⟨rfl, I.turned (t' := s.toks) (fun b ob hb e => eb b ob hb e) ff.1 ff.2.1 ff.2.2.2.1 ff.2.2.2.2.1 ff.2.2.2.2.2⟩
  self := fun A i s Q E st h => wpAny_pyIter_keyiter st h
end
/-- a dict that comes, locked if it is not -/
def iDctK (P : Program) (w : World) (tl : TE) : TI := fun σ H R => tl σ H fun x H1 => ∃ a u ks vs, x = .ref a ∧ DKV P w a u ks vs ∧ ((H1 a = some u ∧ Mut (some u) ∧ ∀ o, R (ItR a o u ks) (upd H1 a (.frz o u))) ∨ ∃ o, H1 a = some (.frz o u) ∧ R (ItR a o u ks) H1)
theorem pi_dct {X : Cx} {tg l : Expr} {tl : TE} (hl : PE X l tl) : PI X tg l (iDctK X.prog X.w tl) := by
  refine ⟨fun pins s σ H R I h => ?_⟩
  refine thn (hl.run pins s σ H _ I h) fun v s1 ⟨x, H1, I1, r1, q1⟩ => ?_
  obtain ⟨a, u, ks, vs, rfl, hk, q⟩ := q1
  cases r1
  have main : ∀ (o : Obj) (H2 : Hp), Inv X pins σ H2 s1 → H2 a = some (.frz o u) → R (ItR a o u ks) H2 → wpAny (model X.prog X.w) X.A (pyIter (.ref a)) (PIE X pins σ tg R) X.xe s1 := by
    intro o H2 I2 e2 q2
    obtain ⟨g1, g2⟩ := I2.hok a _ e2
    obtain ⟨hs, hx, es, ep, hod, hz, _, hv, _⟩ := hk H2 s1.heap o g1 g2
    refine wpAny_pyIter_dict_raw hs (raw_of I2 hx hod e2) ?_
    exact pi_one I2 _ (turn_rk hx hod hz hv _) ⟨_, Heap.get?_push_size _ rfl, rfl, by simp⟩ q2
  rcases q with ⟨e1, mt, q⟩ | ⟨o, e1, q⟩
  · obtain ⟨o, I2⟩ := I1.lock e1 mt
    exact main o _ I2 upd_same (q o)
  · exact main o H1 I1 e1 q
/-! what the two kinds of dicts give -/
theorem dkv_k {P : Program} {w : World} {a : Addr} {kvs : List (Key × V)} : DKV P w a (.dK kvs) (kvs.map fun p => kV p.1) (kvs.map (·.2)) := by
  intro H h o ho ok
  obtain ⟨_, hs, vs, kv, dd⟩ := ok
  obtain ⟨es, ep, ⟨o', ho', hx, hod⟩, hz, he⟩ := dd.raw
  rw [ho] at ho'; cases ho'
  have hl : kvs.length = vs.length := Paired.length kv
  refine ⟨hs, hx, es, ep, hod, by rw [List.length_map]; omega, by rw [List.length_map]; omega, fun i x hi e => ?_, fun i x hi e => ?_⟩
  · rw [List.getElem?_map] at e
    obtain ⟨⟨k, v⟩, e1, e2⟩ := Option.map_eq_some_iff.mp e
    obtain ⟨u, e3, _⟩ := kv_get kv e1
    cases e2
    exact relV_key (show keyIs k es[i].key = true from (he i hi k u e3).1)
  · rw [List.getElem?_map] at e
    obtain ⟨⟨k, v⟩, e1, e2⟩ := Option.map_eq_some_iff.mp e
    obtain ⟨u, e3, r3⟩ := kv_get kv e1
    cases e2
    rw [(he i hi k u e3).2]
    exact r3
theorem dkv_t {K : Kb} {W : Wd} {i : Nat} {a : Addr} {l : List (D × D)} {xs : List (NestedKey × Addr × Value)} (hs : (a == sysModules) = false) (p : Paired (KVR K W i) l xs) : ∃ vs, DKV K.P K.w a (DctO K.P K.w a xs) (xs.map fun x => V.ref x.2.1) vs ∧ DRels K W (l.map (·.1)) (xs.map fun x => V.ref x.2.1) ∧ DRels K W (l.map (·.2)) vs := by
  have key : ∀ {l : List (D × D)} {xs : List (NestedKey × Addr × Value)}, Paired (KVR K W i) l xs → ∃ vs, Paired (fun (v : V) (x : NestedKey × Addr × Value) => RelV v x.2.2) vs xs ∧ DRels K W (l.map (·.1)) (xs.map fun x => V.ref x.2.1) ∧ DRels K W (l.map (·.2)) vs := by
    intro l xs p
    induction p with
    | nil => exact ⟨[], .nil, rfl, rfl⟩
    | cons r t ih =>
      obtain ⟨vs, h1, h2, h3⟩ := ih
      obtain ⟨_, _, r3, ⟨v, r4, r5⟩, _⟩ := r
      exact ⟨v :: vs, .cons r5 h1, ⟨_, _, rfl, r3, h2⟩, ⟨v, vs, rfl, r4, h3⟩⟩
  obtain ⟨vs, h1, h2, h3⟩ := key p
  refine ⟨vs, ?_, h2, h3⟩
  intro H h o ho ok
  obtain ⟨o', es, ep, g1, g2, g3, g4⟩ := ok.1
  rw [ho] at g1; cases g1
  have hz := size_of_entries g4
  have hl : vs.length = xs.length := Paired.length h1
  have at' : ∀ (j : Nat) (hj : j < es.size), ∃ y, xs[j]? = some y ∧ es[j].key = .ref y.2.1 ∧ es[j].val = y.2.2 := by
    intro j hj
    have hx : j < xs.length := by omega
    have e := entry_at g4 j
    rw [Array.getElem?_eq_getElem hj, List.getElem?_eq_getElem hx, Option.map_some] at e
    have e' := Option.some.inj e
    exact ⟨xs[j], List.getElem?_eq_getElem hx, by rw [e']; rfl, by rw [e']; rfl⟩
  refine ⟨hs, g2, es, ep, g3, by rw [List.length_map]; omega, by omega, fun j x hj e => ?_, fun j x hj e => ?_⟩
  · obtain ⟨y, e1, e2, _⟩ := at' j hj
    rw [List.getElem?_map, e1] at e
    cases e
    exact e2
  · obtain ⟨y, e1, _, e3⟩ := at' j hj
    have hv : ∀ {vs : List V} {xs : List (NestedKey × Addr × Value)}, Paired (fun (v : V) (x : NestedKey × Addr × Value) => RelV v x.2.2) vs xs → ∀ (j : Nat) (x : V) (y : NestedKey × Addr × Value), vs[j]? = some x → xs[j]? = some y → RelV x y.2.2 := by
      intro vs xs p
      induction p with
      | nil => intro j x y e; simp at e
      | cons r t ih =>
        intro j x y e1 e2
        cases j with
        | zero => simp at e1 e2; subst e1; subst e2; exact r
        | succ j => exact ih j x y (by simpa using e1) (by simpa using e2)
    rw [e3]
    exact hv h1 j x y e e1
theorem drels_k {K : Kb} {W : Wd} {i : Nat} {l : List (D × D)} {kvs : List (Key × V)} (p : Paired (KSR K W i) l kvs) : DRels K W (l.map (·.1)) (kvs.map fun p => kV p.1) ∧ DRels K W (l.map (·.2)) (kvs.map (·.2)) := by
  induction p with
  | nil => exact ⟨rfl, rfl⟩
  | @cons q x l kvs r t ih =>
    refine ⟨⟨_, _, rfl, ?_, ih.1⟩, ⟨_, _, rfl, r.2.1, ih.2⟩⟩
    obtain ⟨h1, _, _⟩ := r
    show DRel K W q.1 (kV x.1)
    cases hq : q.1 with
    | int n => rw [hq] at h1; simp only [D.key1, Option.some.injEq] at h1; rw [← h1]; rfl
    | str z => rw [hq] at h1; simp only [D.key1, Option.some.injEq] at h1; rw [← h1]; rfl
    | _ => rw [hq] at h1; cases h1
/-- locking -/
theorem lock_at {K : Kb} {W : Wd} {M : Mem} (m : MRel K W M) {j : Nat} {a : Addr} (ha : W.mu.l[j]? = some a) {u : HO} {lk : Bool} (hl : LkH W a lk u) (mo : Bool → MO) (new : ∀ W', Lk W W' → LkH W' a true u → ORel K W' j a (mo true)) (Q : Obj → Hp → Prop)
    (h : ∀ o W', Le W W' → MRel K W' (M.set j (mo true)) → W'.H a = some (.frz o u) → Fz W' a → Q o W'.H) (hmt : Mut (some u)) (hM : lk = true → M[j]? = some (mo true)) : (W.H a = some u ∧ Mut (some u) ∧ ∀ o, Q o (upd W.H a (.frz o u))) ∨ ∃ o, W.H a = some (.frz o u) ∧ Q o W.H := by
  cases lk with
  | false =>
    obtain ⟨nk, e⟩ := (show _ ∧ _ from hl)
    refine .inl ⟨e, hmt, fun o => ?_⟩
    obtain ⟨l1, m1⟩ := m.lockO ha nk (.frz o u) (mo true) fun W' lk e' k => new W' lk ⟨k, o, e'⟩
    exact h o _ l1 m1 upd_same ⟨.inr List.mem_cons_self, fun z => (m.pv a z).2 (List.mem_of_getElem? ha)⟩
  | true =>
    obtain ⟨k, o, e⟩ := (show _ ∧ _ from hl)
    refine .inr ⟨o, e, ?_⟩
    have hs : M.set j (mo true) = M := by
      have hj := hM rfl
      refine List.ext_getElem? fun i => ?_
      by_cases hij : j = i
      · subst hij
        have : j < M.length := by
          by_cases q : j < M.length
          · exact q
          · rw [List.getElem?_eq_none (by omega)] at hj; cases hj
        rw [List.getElem?_set_self this, hj]
      · rw [List.getElem?_set_ne hij]
    exact h o W (Le.refl W) (by rw [hs]; exact m) e (m.fzk k)
/-- what may be walked: a list, a tuple, or a dict by its keys (it is then never written again) -/
def mSeqK (m : ME) : MI := fun F r M => (m F r M).bind fun d M1 => match d with
  | .tup l => .ok (l, none) M1
  | .lst l => .ok (l, none) M1
  | .obj j => match M1[j]? with
    | some (.lst l) => .ok (l, some (j, l)) M1
    | some (.dct _ l) => .ok (l.map (·.1), none) (M1.set j (.dct true l))
    | some (.dks _ l) => .ok (l.map (·.1), none) (M1.set j (.dks true l))
    | _ => .bad
  | _ => .bad
theorem ok_iseqK {tg e : Expr} {m : ME} (h : OkE T C e m) : OkI T C tg e (mSeqK m) := by
  intro n X wx q
  refine PI.of (PI.or (PI.or (pi_list (h n X wx q)) (pi_tup (h n X wx q))) (pi_dct (h n X wx q))) fun s H R w => ?_
  have w0 := w
  obtain ⟨mu, M, r, mr, sr, sat⟩ := w
  unfold mSeqK at sat
  cases e : m (callF T n) r M with
  | bad => rw [e] at sat; exact sat.elim
  | exc x M1 =>
    rw [e] at sat
    refine .inl (.inl ⟨mu, M, r, mr, sr, ?_⟩)
    show Sat _ _ (m (callF T n) r M) _
    rw [e]
    exact sat
  | ok d M1 =>
    rw [e] at sat
    simp only [Res.bind_ok] at sat
    cases d with
    | tup l =>
      refine .inl (.inr ⟨mu, M, r, mr, sr, ?_⟩)
      show Sat _ _ (m (callF T n) r M) _
      rw [e]
      intro W1 l1 m1 v dv
      simp only [DRel] at dv
      obtain ⟨a, xs, rfl, t, dr⟩ := dv
      exact ⟨a, rfl, ⟨xs, t.sq⟩, sat W1 l1 m1 _ (walk_at walk_tup (fun W' l' => (t.lk l').sq) dr)⟩
    | lst l =>
      refine .inl (.inl ⟨mu, M, r, mr, sr, ?_⟩)
      show Sat _ _ (m (callF T n) r M) _
      rw [e]
      intro W1 l1 m1 v dv
      simp only [DRel] at dv
      obtain ⟨a, xs, rfl, t, dr⟩ := dv
      exact ⟨a, rfl, ⟨xs, t.sq⟩, sat W1 l1 m1 _ (walk_at walk_list (fun W' l' => (t.lk l').sq) dr)⟩
    | obj j =>
      cases ej : M1[j]? with
      | none => simp only [ej] at sat; exact sat.elim
      | some o =>
        cases o with
        | ins _ l => simp only [ej] at sat; exact sat.elim
        | lst l =>
          refine .inl (.inl ⟨mu, M, r, mr, sr, ?_⟩)
          show Sat _ _ (m (callF T n) r M) _
          rw [e]
          intro W1 l1 m1 v dv
          simp only [ej] at sat
          simp only [DRel] at dv
          obtain ⟨a, rfl, ha⟩ := dv
          obtain ⟨xs, e3, r3, _⟩ := m1.obj j a _ ha ej
          exact ⟨a, rfl, ⟨xs, SqL.of e3⟩, sat W1 l1 m1 _ (walk_obj ha)⟩
        | dct lk l =>
          refine .inr ⟨mu, M, r, mr, sr, ?_⟩
          show Sat _ _ (m (callF T n) r M) _
          rw [e]
          intro W1 l1 m1 v dv
          simp only [ej] at sat
          simp only [DRel] at dv
          obtain ⟨a, rfl, ha⟩ := dv
          obtain ⟨xs, g1, g2, g3, g4, g5⟩ := m1.obj j a _ ha ej
          obtain ⟨vs, k1, k2, k3⟩ := dkv_t (a := a) g4 g5
          refine ⟨a, DctO (kb X).P (kb X).w a xs, _, vs, rfl, k1, lock_at m1 ha g1 (fun b => .dct b l) (fun W' lk' hl => ⟨xs, hl, g2, g3, g4, Paired.mapP g5 fun _ _ q => q.lk lk'⟩) (fun o H' => R (ItR a o (DctO (kb X).P (kb X).w a xs) (xs.map fun x => V.ref x.2.1)) H') (fun o W' l' m' e' fz => ?_) True.intro (fun hk => by subst hk; exact ej)⟩
          exact sat W' (l1.trans l') m' _ (walk_at walk_rk (fun W'' l'' => (l''.keep a _ e' fz).1) (DRels.le l' _ _ k2))
        | dks lk l =>
          refine .inr ⟨mu, M, r, mr, sr, ?_⟩
          show Sat _ _ (m (callF T n) r M) _
          rw [e]
          intro W1 l1 m1 v dv
          simp only [ej] at sat
          simp only [DRel] at dv
          obtain ⟨a, rfl, ha⟩ := dv
          obtain ⟨kvs, g1, g2⟩ := m1.obj j a _ ha ej
          obtain ⟨k2, k3⟩ := drels_k g2
          refine ⟨a, .dK kvs, _, _, rfl, dkv_k, lock_at m1 ha g1 (fun b => .dks b l) (fun W' lk' hl => ⟨kvs, hl, Paired.mapP g2 fun _ _ q => q.lk lk'⟩) (fun o H' => R (ItR a o (.dK kvs) (kvs.map fun p => kV p.1)) H') (fun o W' l' m' e' fz => ?_) True.intro (fun hk => by subst hk; exact ej)⟩
          exact sat W' (l1.trans l') m' _ (walk_at walk_rk (fun W'' l'' => (l''.keep a _ e' fz).1) (DRels.le l' _ _ k2))
    | _ => exact sat.elim
end RI

namespace RI
open PySem PySem.Spec PyProof.Rows L2
variable {T : Tb} {C : CC}
/-! ### d.items(), walked into pairs -/
def ItP (d : Addr) (o : Obj) (u : HO) (ks vs : List V) : It := ⟨fun i H => H d = some (.frz o u) ∧ i < ks.length, fun i H x H' => ∃ t k v, x = .ref t ∧ H t = none ∧ H' = upd H t (.tup [k, v]) ∧ ks[i]? = some k ∧ vs[i]? = some v, fun i H => H d = some (.frz o u) ∧ ks.length ≤ i⟩
theorem walk_ri {d : Addr} {o : Obj} {u : HO} {ks vs : List V} : Walk (ItP d o u ks vs) ks.length (fun H => H d = some (.frz o u)) (YPair (fun i => ks[i]?) (fun i => vs[i]?)) := ⟨fun _ _ hi h => ⟨h, hi⟩, fun _ h => ⟨h, Nat.le_refl _⟩, fun _ _ _ _ _ _ y => y⟩
section
variable {P : Program} {w : World} {K : PySem.W.Frag} {d : Addr} {o : Obj} {u : HO} {es : Array DictEntry} {ep : Nat} {ks vs : List V} {elts : List Expr} {kk : Nat} {tpos : Pos}
theorem turn_ri (hx : o.ExactDict) (hod : o.data = .dict es ep) (hz : es.size = ks.length) (hz' : es.size = vs.length) (hk : ∀ (i : Nat) (x : V) (hi : i < es.size), ks[i]? = some x → RelV x es[i].key) (hv : ∀ (i : Nat) (x : V) (hi : i < es.size), vs[i]? = some x → RelV x es[i].val) (it : Addr) :
    Turn P w K (.Tuple elts kk tpos) (ItP d o u ks vs) [it] it (fun i h => ∃ ok ov, IsItemIter h it d i es.size ep ok ov) where
  mem := List.mem_singleton.mpr rfl
  obj := fun i h st b hb => by
    cases (List.mem_singleton.mp hb)
    obtain ⟨ok, ov, e⟩ := st
    exact ⟨_, e, fun v z => nomatch z⟩
  keep := fun i h h' st k => let ⟨ok, ov, e⟩ := st; ⟨ok, ov, k it (List.mem_singleton.mpr rfl) _ e⟩
  item := by
    intro X eP ew eK hc i pins s σ H E I hf st hg
    subst eP ew eK
    obtain ⟨ok, ov, st⟩ := st
    have hi : i < es.size := by rw [hz]; exact hg.2
    have hi' : i < vs.length := by omega
    have k1 : ks[i]? = some (ks[i]'hg.2) := List.getElem?_eq_getElem hg.2
    have v1 : vs[i]? = some (vs[i]'hi') := List.getElem?_eq_getElem hi'
    have hlt : it < s.heap.objs.size := Heap.lt_size st
    refine wpAny_pyNext_items_item_raw st (raw_of I hx hod hg.1) hi fun h' ho hT hsz hkp => ?_
    refine ⟨_, rfl, wpAny_letOwnedTupleGo_items (s := { s with heap := h' }) ho fun h2 he2 sb => ?_⟩
    have hT2 := (sb.2 s.heap.objs.size (Nat.ne_of_gt hlt)).trans hT
    have new : ObjOk X.prog X.w (upd H s.heap.objs.size (.tup [ks[i]'hg.2, vs[i]'hi'])) h2 s.heap.objs.size (.tup [ks[i]'hg.2, vs[i]'hi']) :=
      ⟨(by show 2 ≤ sizeLine; rw [sizeLine_eq]; omega), [es[i].key, es[i].val], .cons (hk i _ hi k1) (.cons (hv i _ hi v1) .nil), ⟨_, hT2, rfl, _, rfl⟩⟩
    have I1 : Inv X pins σ (upd H s.heap.objs.size (.tup [ks[i]'hg.2, vs[i]'hi'])) { s with heap := h2 } := I.turnedNew (t' := s.toks) (ch := [it]) (fun b ob hb e => (sb.2 b (fun z => hb (List.mem_singleton.mpr z))).trans (hkp b ob (fun z => hb (List.mem_singleton.mpr z)) e)) hf (Nat.le_refl _) new
    refine ⟨.ref s.heap.objs.size, _, I1, rfl, ⟨_, _, _, rfl, I.hok.fresh (Nat.le_refl _), rfl, k1, v1⟩, ⟨_, _, he2⟩, fun b hb => ?_⟩
    have eb := List.mem_singleton.mp hb
    rw [eb, upd_ne (Nat.ne_of_lt hlt)]
    exact (hf it (List.mem_singleton.mpr rfl)).1
  done := by
    intro X eP ew eK hc i pins s σ H E I hf st hg
    subst eP ew eK
    obtain ⟨ok, ov, st⟩ := st
    have ff := hf it (List.mem_singleton.mpr rfl)
    exact wpAny_pyNext_items_end_raw (I.ok.hd hc) st (raw_of I hx hod hg.1) (by rw [hz]; exact hg.2) fun h' eb => ⟨rfl, I.turned (t' := s.toks) (fun b ob hb e => eb b ob hb e) ff.1 ff.2.1 ff.2.2.2.1 ff.2.2.2.2.1 ff.2.2.2.2.2⟩
  self := fun A i s Q E st h => by
    obtain ⟨ok, ov, st⟩ := st
    exact wpAny_pyIter_itemiter st h
end
def iDctI (P : Program) (w : World) (tl : TE) : TI := fun σ H R => tl σ H fun x H1 => ∃ a u ks vs, x = .ref a ∧ DKV P w a u ks vs ∧ ((H1 a = some u ∧ Mut (some u) ∧ ∀ o, R (ItP a o u ks vs) (upd H1 a (.frz o u))) ∨ ∃ o, H1 a = some (.frz o u) ∧ R (ItP a o u ks vs) H1)
theorem pi_items' {X : Cx} {l : Expr} {tl : TE} {elts : List Expr} {kk : Nat} {tpos apos cpos : Pos} (hl : PE X l tl) (hb : attributeBase l "items" X.env (eval l X.env) = eval l X.env) (hline : (apos.endLine == cpos.line) = true) : PI X (.Tuple elts kk tpos) (.Call (.Attribute l "items" apos) [] [] cpos) (iDctI X.prog X.w tl) := by
  refine ⟨fun pins s σ H R I h => ?_⟩
  refine wpAny_Call_method (T := "dict") (id := "dict.items") hb rfl hline F.plainAttrs_dict F.slot_dict_items F.type_dict_items (thn (hl.run pins s σ H _ I h) fun v s1 ⟨x, H1, I1, r1, q1⟩ => ?_)
  obtain ⟨a, u, ks, vs, rfl, hk, q⟩ := q1
  cases r1
  have main : ∀ (o : Obj) (H2 : Hp), Inv X pins σ H2 s1 → H2 a = some (.frz o u) → R (ItP a o u ks vs) H2 → s1.TypeIs (.ref a) "dict" ∧ (∀ b : Addr, Value.ref a = Value.ref b → ∃ ob, s1.heap.get? b = some ob ∧ ob.dict = none) ∧ wpAny (model X.prog X.w) X.A (callWith cpos (.builtin "dict.items") [.ref a] [] []) (fun v s2 => wpAny (model X.prog X.w) X.A (pyIter v) (PIE X pins σ (.Tuple elts kk tpos) R) X.xe s2) X.xe s1 := by
    intro o H2 I2 e2 q2
    obtain ⟨g1, g2⟩ := I2.hok a _ e2
    obtain ⟨hs, hx, es, ep, hod, hz, hz', hv, hv'⟩ := hk H2 s1.heap o g1 g2
    have raw := raw_of I2 hx hod e2
    have I3 : Inv X pins σ H2 { s1 with heap := s1.heap.push { cls := .type "dict_items", data := .fields #[.ref a] } } := I2.kept (t' := s1.toks) fun b ob q => Heap.get?_push_of_some _ q
    have fin : wpAny (model X.prog X.w) X.A (pyIter (.ref s1.heap.objs.size)) (PIE X pins σ (.Tuple elts kk tpos) R) X.xe { s1 with heap := s1.heap.push { cls := .type "dict_items", data := .fields #[.ref a] } } := by
      refine wpAny_pyIter_items_raw (d := a) ⟨_, Heap.get?_push_size _ rfl, rfl, rfl⟩ (raw.at fun o' q => Heap.get?_push_of_some _ q) ?_
      exact pi_one (tk := s1.toks) I3 _ (turn_ri hx hod hz hz' hv hv' _) ⟨.none, .none, Heap.get?_push_size _ rfl⟩ q2
    exact ⟨raw.typeIs, fun b eb => by cases eb; exact ⟨o, g1, hx.2.1⟩, method_meetsIn F.slot_dict_items F.entry_dict_items rfl (PySem.evalArgs_none ⟨rfl, raw.typeIs, F.args_dict_items_1 _, _, meets_dict_items_raw a hs, ⟨es, ep, raw⟩, fin⟩)⟩
  rcases q with ⟨e1, mt, q⟩ | ⟨o, e1, q⟩
  · obtain ⟨o, I2⟩ := I1.lock e1 mt
    exact main o _ I2 upd_same (q o)
  · exact main o H1 I1 e1 q
theorem turn_rv {P : Program} {w : World} {K : PySem.W.Frag} {tg : Expr} {d : Addr} {o : Obj} {u : HO} {es : Array DictEntry} {ep : Nat} {vs : List V} (hx : o.ExactDict) (hod : o.data = .dict es ep) (hsz : es.size = vs.length) (hv : ∀ (i : Nat) (x : V) (hi : i < es.size), vs[i]? = some x → RelV x es[i].val) (it : Addr) : Turn P w K tg (ItR d o u vs) [it] it (fun i h => h.IsValIter it d i es.size ep) where
  mem := List.mem_singleton.mpr rfl
  obj := fun i h st b hb => by
    cases (List.mem_singleton.mp hb)
    obtain ⟨oi, e, c, dd⟩ := st
    exact ⟨oi, e, fun v z => by rw [dd] at z; cases z⟩
  keep := fun i h h' st k => st.at fun oi e => k it (List.mem_singleton.mpr rfl) oi e
  item := by
    intro X eP ew eK hc i pins s σ H E I hf st hg
    subst eP ew eK
    have ff := hf it (List.mem_singleton.mpr rfl)
    have hi : i < es.size := by rw [hsz]; exact hg.2
    have hx' : vs[i]? = some (vs[i]'hg.2) := List.getElem?_eq_getElem hg.2
    refine wpAny_pyNext_values_item_raw st (raw_of I hx hod hg.1) hi fun h' st' sb => ?_
    have I1 : Inv X pins σ H { s with heap := h' } := I.turned (t' := s.toks) (fun b ob hb e => (sb.2 b hb).trans e) ff.1 ff.2.1 ff.2.2.2.1 ff.2.2.2.2.1 ff.2.2.2.2.2
    obtain ⟨oi, e, c, dd⟩ := id st'
    exact ⟨_, rfl, go_of (s := { s with heap := h' }) e c dd (by decide) ⟨vs[i]'hg.2, H, I1, hv i _ hi hx', ⟨rfl, hx'⟩, st', fun b hb => (hf b hb).1⟩⟩
  done := by
    intro X eP ew eK hc i pins s σ H E I hf st hg
    subst eP ew eK
    have ff := hf it (List.mem_singleton.mpr rfl)
    exact wpAny_pyNext_values_end_raw (I.ok.hd hc) st (raw_of I hx hod hg.1) (by rw [hsz]; exact hg.2) fun h' eb => ⟨rfl, I.turned (t' := s.toks) (fun b ob hb e => eb b ob hb e) ff.1 ff.2.1 ff.2.2.2.1 ff.2.2.2.2.1 ff.2.2.2.2.2⟩
  self := fun A i s Q E st h => wpAny_pyIter_valiter st h
def iDctV (P : Program) (w : World) (tl : TE) : TI := fun σ H R => tl σ H fun x H1 => ∃ a u ks vs, x = .ref a ∧ DKV P w a u ks vs ∧ ((H1 a = some u ∧ Mut (some u) ∧ ∀ o, R (ItR a o u vs) (upd H1 a (.frz o u))) ∨ ∃ o, H1 a = some (.frz o u) ∧ R (ItR a o u vs) H1)
theorem pi_values' {X : Cx} {l : Expr} {tl : TE} {tg : Expr} {apos cpos : Pos} (hl : PE X l tl) (hb : attributeBase l "values" X.env (eval l X.env) = eval l X.env) (hline : (apos.endLine == cpos.line) = true) : PI X tg (.Call (.Attribute l "values" apos) [] [] cpos) (iDctV X.prog X.w tl) := by
  refine ⟨fun pins s σ H R I h => ?_⟩
  refine wpAny_Call_method (T := "dict") (id := "dict.values") hb rfl hline F.plainAttrs_dict F.slot_dict_values F.type_dict_values (thn (hl.run pins s σ H _ I h) fun v s1 ⟨x, H1, I1, r1, q1⟩ => ?_)
  obtain ⟨a, u, ks, vs, rfl, hk, q⟩ := q1
  cases r1
  have main : ∀ (o : Obj) (H2 : Hp), Inv X pins σ H2 s1 → H2 a = some (.frz o u) → R (ItR a o u vs) H2 → s1.TypeIs (.ref a) "dict" ∧ (∀ b : Addr, Value.ref a = Value.ref b → ∃ ob, s1.heap.get? b = some ob ∧ ob.dict = none) ∧ wpAny (model X.prog X.w) X.A (callWith cpos (.builtin "dict.values") [.ref a] [] []) (fun v s2 => wpAny (model X.prog X.w) X.A (pyIter v) (PIE X pins σ tg R) X.xe s2) X.xe s1 := by
    intro o H2 I2 e2 q2
    obtain ⟨g1, g2⟩ := I2.hok a _ e2
    obtain ⟨hs, hx, es, ep, hod, hz, hz', hv, hv'⟩ := hk H2 s1.heap o g1 g2
    have raw := raw_of I2 hx hod e2
    have I3 : Inv X pins σ H2 { s1 with heap := s1.heap.push { cls := .type "dict_values", data := .fields #[.ref a] } } := I2.kept (t' := s1.toks) fun b ob q => Heap.get?_push_of_some _ q
    have fin : wpAny (model X.prog X.w) X.A (pyIter (.ref s1.heap.objs.size)) (PIE X pins σ tg R) X.xe { s1 with heap := s1.heap.push { cls := .type "dict_values", data := .fields #[.ref a] } } := by
      refine wpAny_pyIter_values_raw (d := a) ⟨_, Heap.get?_push_size _ rfl, rfl, rfl⟩ (raw.at fun o' q => Heap.get?_push_of_some _ q) ?_
      exact pi_one (tk := s1.toks) I3 _ (turn_rv hx hod hz' hv' _) ⟨_, Heap.get?_push_size _ rfl, rfl, by simp⟩ q2
    exact ⟨raw.typeIs, fun b eb => by cases eb; exact ⟨o, g1, hx.2.1⟩, method_meetsIn F.slot_dict_values F.entry_dict_values rfl (PySem.evalArgs_none ⟨rfl, raw.typeIs, F.args_dict_values_1 _, _, meets_dict_values_raw a hs, ⟨es, ep, raw⟩, fin⟩)⟩
  rcases q with ⟨e1, mt, q⟩ | ⟨o, e1, q⟩
  · obtain ⟨o, I2⟩ := I1.lock e1 mt
    exact main o _ I2 upd_same (q o)
  · exact main o H1 I1 e1 q
/-! ### meanings -/
def pairsD (l : List (D × D)) : List D := l.map fun p => .tup [p.1, p.2]
def mDictI (f : List (D × D) → List D) (m : ME) : MI := fun F r M => (m F r M).bind fun d M1 => match d with
  | .obj j => match M1[j]? with
    | some (.dct _ l) => .ok (f l, none) (M1.set j (.dct true l))
    | some (.dks _ l) => .ok (f l, none) (M1.set j (.dks true l))
    | _ => .bad
  | _ => .bad
theorem dict_walk {n : Nat} {X : Cx} {wx : Ex → L2.St → Wd → Prop} {m : ME} {f : List (D × D) → List D} {s : L2.St} {H : Hp} {R : It → Hp → Prop} (It0 : Addr → Obj → HO → List V → List V → It)
    (hw : ∀ (W : Wd) (a : Addr) (o : Obj) (u : HO) (ks vs : List V) (l : List (D × D)), W.H a = some (.frz o u) → Fz W a → DRels (kb X) W (l.map (·.1)) ks → DRels (kb X) W (l.map (·.2)) vs → WalkOk (kb X) W none (f l) (It0 a o u ks vs))
    (w : rdI (kx X wx) (callF T n) (mDictI f m) s H R) : rdE (kx X wx) (callF T n) m s H fun x H1 => ∃ a u ks vs, x = .ref a ∧ DKV X.prog X.w a u ks vs ∧ ((H1 a = some u ∧ Mut (some u) ∧ ∀ o, R (It0 a o u ks vs) (upd H1 a (.frz o u))) ∨ ∃ o, H1 a = some (.frz o u) ∧ R (It0 a o u ks vs) H1) := by
  obtain ⟨mu, M, r, mr, sr, sat⟩ := w
  refine ⟨mu, M, r, mr, sr, ?_⟩
  unfold mDictI at sat
  cases e : m (callF T n) r M with
  | bad => rw [e] at sat; exact sat.elim
  | exc x M1 =>
    rw [e] at sat
    show Sat _ _ (m (callF T n) r M) _
    rw [e]
    exact sat
  | ok d M1 =>
    rw [e] at sat
    simp only [Res.bind_ok] at sat
    show Sat _ _ (m (callF T n) r M) _
    rw [e]
    intro W1 l1 m1 v dv
    cases d with
    | obj j =>
      simp only [DRel] at dv
      obtain ⟨a, rfl, ha⟩ := dv
      cases ej : M1[j]? with
      | none => simp only [ej] at sat; exact sat.elim
      | some o =>
        cases o with
        | ins _ l => simp only [ej] at sat; exact sat.elim
        | lst l => simp only [ej] at sat; exact sat.elim
        | dct lk l =>
          simp only [ej] at sat
          obtain ⟨xs, g1, g2, g3, g4, g5⟩ := m1.obj j a _ ha ej
          obtain ⟨vs, k1, k2, k3⟩ := dkv_t (a := a) g4 g5
          refine ⟨a, DctO (kb X).P (kb X).w a xs, _, vs, rfl, k1, lock_at m1 ha g1 (fun b => .dct b l) (fun W' lk' hl => ⟨xs, hl, g2, g3, g4, Paired.mapP g5 fun _ _ q => q.lk lk'⟩) (fun o H' => R (It0 a o (DctO (kb X).P (kb X).w a xs) (xs.map fun x => V.ref x.2.1) vs) H') (fun o W' l' m' e' fz => ?_) True.intro (fun hk => by subst hk; exact ej)⟩
          exact sat W' (l1.trans l') m' _ (hw W' a o _ _ _ l e' fz (DRels.le l' _ _ k2) (DRels.le l' _ _ k3))
        | dks lk l =>
          simp only [ej] at sat
          obtain ⟨kvs, g1, g2⟩ := m1.obj j a _ ha ej
          obtain ⟨k2, k3⟩ := drels_k g2
          refine ⟨a, .dK kvs, _, _, rfl, dkv_k, lock_at m1 ha g1 (fun b => .dks b l) (fun W' lk' hl => ⟨kvs, hl, Paired.mapP g2 fun _ _ q => q.lk lk'⟩) (fun o H' => R (It0 a o (.dK kvs) (kvs.map fun p => kV p.1) (kvs.map (·.2))) H') (fun o W' l' m' e' fz => ?_) True.intro (fun hk => by subst hk; exact ej)⟩
          exact sat W' (l1.trans l') m' _ (hw W' a o _ _ _ l e' fz (DRels.le l' _ _ k2) (DRels.le l' _ _ k3))
    | _ => exact sat.elim
theorem nsb {o : Expr} {a : Str} {env : Env} (h : (match o with | .Call (.Name _ _) [] [] _ => false | _ => true) = true) : attributeBase o a env (eval o env) = eval o env := by
  cases o <;> first | rfl | skip
  rename_i f args kws pos
  cases f <;> first | rfl | skip
  cases args <;> first | rfl | skip
  cases kws <;> first | rfl | cases h
def noSup : Expr → Bool
  | .Call (.Name _ _) [] [] _ => false
  | _ => true
theorem ok_iitems {l : Expr} {elts : List Expr} {kk : Nat} {tpos apos cpos : Pos} {m : ME} {x : Str} (hx : x = "items") (hb : noSup l = true) (hl : (apos.endLine == cpos.line) = true) (h : OkE T C l m) : OkI T C (.Tuple elts kk tpos) (.Call (.Attribute l x apos) [] [] cpos) (mDictI pairsD m) := by
  subst hx
  intro n X wx q
  refine PI.of (pi_items' (h n X wx q) (nsb hb) hl) fun s H R w => dict_walk (fun a o u ks vs => ItP a o u ks vs) (fun W a o u ks vs l e fz hk hv => ?_) w
  refine walk_pair walk_ri (fun W' l' => (l'.keep a _ e fz).1) (by rw [pairsD, List.length_map, ← hk.length, List.length_map]) fun i d v u' e1 e2 e3 => ?_
  rw [pairsD, List.getElem?_map] at e1
  obtain ⟨p, ep, e1⟩ := Option.map_eq_some_iff.mp e1
  obtain ⟨v1, h1, h2⟩ := hk.get (i := i) (d := p.1) (by rw [List.getElem?_map, ep]; rfl)
  obtain ⟨v2, h3, h4⟩ := hv.get (i := i) (d := p.2) (by rw [List.getElem?_map, ep]; rfl)
  rw [h1] at e2; rw [h3] at e3
  cases e2; cases e3
  exact ⟨p.1, p.2, e1.symm, h2, h4⟩
theorem ok_ivalues {l tg : Expr} {apos cpos : Pos} {m : ME} {x : Str} (hx : x = "values") (hb : noSup l = true) (hl : (apos.endLine == cpos.line) = true) (h : OkE T C l m) : OkI T C tg (.Call (.Attribute l x apos) [] [] cpos) (mDictI (fun l => l.map (·.2)) m) := by
  subst hx
  intro n X wx q
  refine PI.of (pi_values' (h n X wx q) (nsb hb) hl) fun s H R w => dict_walk (fun a o u ks vs => ItR a o u vs) (fun W a o u ks vs l e fz hk hv => ?_) w
  exact walk_at walk_rk (fun W' l' => (l'.keep a _ e fz).1) hv
end RI

namespace RI
open PySem PySem.Spec PyProof.Rows L2
open AutoSeq1 (wpAny_loadPart')
theorem tup_mul1 (l : Addr) (its : Array Value) (n : Nat) (dd : Option Addr) (sl : Array (Option Value)) (x : Int) (u : Tok) (h0 : (decide (x < -(2 ^ 63)) || decide (x ≥ 2 ^ 63)) = false) (h1 : (its.isEmpty || x == 1) = true) :
    Meets (Builtin.«tuple.__mul__» ⟨[.ref l, .int x u], []⟩) (fun _ R s => s.heap.get? l = some { cls := .type "tuple", dict := dd, data := .seq its n, slots := sl } ∧ R (.ok (.ret (Value.ref l))) s) :=
  .of_wp fun prog w A R s h => by
    obtain ⟨hp, g, d, tk, os⟩ := s
    obtain ⟨hl, h⟩ := h
    have f1 := AutoSeq1.idx_int
    wp_walk using wpAny_loadPart' hl
    refine wpAny_ite_false (decide_eq_false (by rw [h0]; simp)) ?_
    wp_walk using wpAny_loadPart' hl
    exact ⟨_, rfl, h⟩
theorem tup_mul0 (l : Addr) (its : Array Value) (n : Nat) (dd : Option Addr) (sl : Array (Option Value)) (x : Int) (u : Tok) (h0 : (decide (x < -(2 ^ 63)) || decide (x ≥ 2 ^ 63)) = false) (h1 : (its.isEmpty || x == 1) = false) (h2 : (decide (x ≤ 0) || its.isEmpty) = true) :
    Meets (Builtin.«tuple.__mul__» ⟨[.ref l, .int x u], []⟩) (fun _ R s => s.heap.get? l = some { cls := .type "tuple", dict := dd, data := .seq its n, slots := sl } ∧ R (.ok (.ret (Value.ref s.heap.objs.size))) { s with heap := s.heap.push { cls := Value.type "tuple", data := Data.seq #[] }, toks := s.toks }) :=
  .of_wp fun prog w A R s h => by
    obtain ⟨hp, g, d, tk, os⟩ := s
    obtain ⟨hl, h⟩ := h
    have f1 := AutoSeq1.idx_int
    wp_walk using wpAny_loadPart' hl
    repeat (first
      | (refine wpAny_ite_false (decide_eq_false (by rw [h0]; simp)) ?_; wp_walk using wpAny_loadPart' hl)
      | (refine wpAny_ite_false (decide_eq_false (by rw [h1]; simp)) ?_; wp_walk using wpAny_loadPart' hl)
      | (refine wpAny_ite_true (decide_eq_true h2) ?_; wp_walk using wpAny_loadPart' hl))
    exact ⟨_, rfl, h⟩
/-- tuple * int, any small number -/
def rRepA (K : PySem.W.Frag) : R2 := fun x y H Q => ∃ l k xs, x = .ref l ∧ y = .int k ∧ SqT K H l xs ∧ -1000 ≤ k ∧ k ≤ 1000 ∧ xs.length ≤ 1000 ∧ (((xs = [] ∨ k = 1) ∧ Q (.ref l) H) ∨ (xs ≠ [] ∧ k ≠ 1 ∧ ∀ p, H p = none → Q (.ref p) (upd H p (.tup (List.replicate k.toNat xs).flatten))))
theorem op_repA {X : Cx} : OpR X (binaryOp .Mult) (rRepA X.K) := by
  intro pins s σ H x y v u Q I rx ry h
  obtain ⟨l, k, xs, rfl, rfl, hT, k1, k2, hz, q⟩ := h
  have h0 : (decide (k < -(2 ^ 63)) || decide (k ≥ 2 ^ 63)) = false := by
    simp only [decide_eq_false (show ¬ k < -(2 ^ 63) by omega), decide_eq_false (show ¬ k ≥ 2 ^ 63 by omega), Bool.or_self]
  rcases q with ⟨hc, q⟩ | ⟨hne, hk, q⟩
  · cases rx
    obtain ⟨t, rfl⟩ := ry
    obtain ⟨its, r, ⟨⟨cls, dd, data, sl⟩, ho, hcl, n, hd⟩, hs⟩ := I.tuple hT
    simp only at hcl hd
    subst hcl hd
    have h1 : (its.toArray.isEmpty || k == 1) = true := by
      rcases hc with rfl | rfl
      · cases r; rfl
      · simp
    refine wpAny_binaryOp_repeat_ref (T := "tuple") (U := "int") (by decide) ⟨_, ho, rfl⟩ (fun z => typeIs_int z k t) noFill_tuple_mul F.fills_int_mul F.slot_int_rmul repeat_tuple F.slot_int_index.lookup
      (call_meets F.slot_int_rmul (typeIs_int s k t) F.entry_int_rmul (F.args_int_rmul_2 _ _) (int_rmul_tuple k t l its.toArray n dd sl) ⟨ho, rfl, ⟨_, ho, rfl⟩, call_meets F.slot_tuple_mul ⟨_, ho, rfl⟩ F.entry_tuple_mul (F.args_tuple_mul_2 _ _) (tup_mul1 l its.toArray n dd sl k t h0 h1) ⟨ho, ?_⟩⟩)
    exact ⟨.ref l, H, I, rfl, q⟩
  · by_cases hk2 : 2 ≤ k
    · exact op_repT pins s σ H _ _ v u Q I rx ry ⟨l, k, xs, rfl, rfl, hT, hne, hk2, k2, hz, q⟩
    · cases rx
      obtain ⟨t, rfl⟩ := ry
      obtain ⟨its, r, ⟨⟨cls, dd, data, sl⟩, ho, hcl, n, hd⟩, hs⟩ := I.tuple hT
      simp only at hcl hd
      subst hcl hd
      have hi : its.toArray.isEmpty = false := by
        cases its with
        | nil => cases r; exact absurd rfl hne
        | cons a b => rfl
      have h1 : (its.toArray.isEmpty || k == 1) = false := by
        rw [hi, Bool.false_or]; exact beq_eq_false_iff_ne.mpr hk
      have h2 : (decide (k ≤ 0) || its.toArray.isEmpty) = true := by
        rw [decide_eq_true (by omega)]; rfl
      have e0 : k.toNat = 0 := by omega
      refine wpAny_binaryOp_repeat_ref (T := "tuple") (U := "int") (by decide) ⟨_, ho, rfl⟩ (fun z => typeIs_int z k t) noFill_tuple_mul F.fills_int_mul F.slot_int_rmul repeat_tuple F.slot_int_index.lookup
        (call_meets F.slot_int_rmul (typeIs_int s k t) F.entry_int_rmul (F.args_int_rmul_2 _ _) (int_rmul_tuple k t l its.toArray n dd sl) ⟨ho, rfl, ⟨_, ho, rfl⟩, call_meets F.slot_tuple_mul ⟨_, ho, rfl⟩ F.entry_tuple_mul (F.args_tuple_mul_2 _ _) (tup_mul0 l its.toArray n dd sl k t h0 h1 h2) ⟨ho, ?_⟩⟩)
      rw [e0] at q
      exact ⟨.ref s.heap.objs.size, _, I.laid (t' := s.toks) (o := .tup []) (fun b ob q => Heap.get?_push_of_some _ q) (Nat.le_refl _) ⟨Nat.zero_le _, [], .nil, IsTup.new _ _⟩, rfl, q _ (I.hok.fresh (Nat.le_refl _))⟩
variable {T : Tb} {C : CC}
/-- [..] * int -/
def repD (l : List D) (k : Int) : List D := (List.replicate k.toNat l).flatten
theorem DRels.rep {K : Kb} {W : Wd} {l : List D} {xs : List V} (h : DRels K W l xs) : ∀ k : Nat, DRels K W (List.replicate k l).flatten (List.replicate k xs).flatten
  | 0 => rfl
  | k + 1 => by
    simp only [List.replicate_succ, List.flatten_cons]
    exact DRels.append h (DRels.rep h k)
def repOk (n : Nat) (k : Int) : Bool := decide (-1000 ≤ k) && decide (k ≤ 1000) && Nat.ble n 1000
def mLMul (ms : MA) (m : ME) : ME := fun F r M => (ms F r M).bind fun ds M1 => if ds.length ≤ LIM then (m F r M1).bind fun d M2 => (match d with
  | .int k => if repOk ds.length k = true then .ok (.lst (repD ds k)) M2 else .bad
  | _ => .bad) else .bad
theorem ok_lmul {es : List Expr} {e : Expr} {p pos : Pos} {ms : MA} {m : ME} (h1 : OkA T C es ms) (h2 : OkE T C e m) : OkE T C (.BinOp (.List es p) .Mult e pos) (mLMul ms m) := by
  intro n X wx h
  refine PE.of (pe_op op_rep (pe_lst (h1 n X wx h)) (h2 n X wx h)) fun s H Q q => ?_
  obtain ⟨mu, M, r, mr, sr, sat⟩ := q
  refine ⟨mu, M, r, mr, sr, sat.bind.imp fun ds M1 W1 l1 m1 s1 vs dvs => ?_⟩
  obtain ⟨hl, s1⟩ := sat_ite s1
  refine ⟨by rw [← dvs.length, ← lim_eq]; exact hl, fun p hp => ?_⟩
  obtain ⟨l2, m2⟩ := m1.laid hp (.lst vs)
  have fz : Fz ⟨upd W1.H p (.lst vs), W1.mu⟩ p := m1.fresh hp
  refine ⟨W1.mu, M1, r, m2, (sr.le l1).le l2, (Sat.le s1 l2).bind.imp fun d M2 W2 l3 m3 s2 v dv => ?_⟩
  have hp2 := (l3.keep p _ upd_same fz).1
  cases d with
  | int k =>
    cases (show v = _ from dv)
    obtain ⟨hc, s2⟩ := sat_ite s2
    simp only [repOk, Bool.and_eq_true, decide_eq_true_eq] at hc
    have hn := Nat.le_of_ble_eq_true hc.2
    rw [dvs.length] at hn
    have hm : vs.length * k.toNat ≤ 1000 * 1000 := Nat.mul_le_mul hn (by omega)
    refine ⟨p, k, vs, rfl, rfl, hp2, by omega, by omega, by rw [sizeLine_eq]; omega, fun p2 h2 => ?_⟩
    exact new_lst (K := (kx X wx).at s) m3 (DRels.rep (DRels.le (l2.trans l3) ds vs dvs) k.toNat) s2 h2
  | _ => exact s2.elim
/-- * of numbers, of a tuple and a number -/
def mulT : D → D → Mem → Res D
  | .tup l, .int k, M => if repOk l.length k = true then .ok (.tup (repD l k)) M else .bad
  | x, y, M => mulD x y M
theorem or_mulT {X : Cx} : OpR X (binaryOp .Mult) (rB (kb X) mulT) := by
  intro pins s σ H x y v u Q I rx ry h
  obtain ⟨mu, M, dx, dy, mr, hx, hy, sat⟩ := h
  unfold mulT at sat
  split at sat
  · rename_i l k
    obtain ⟨hc, sat⟩ := sat_ite sat
    simp only [repOk, Bool.and_eq_true, decide_eq_true_eq] at hc
    have hn := Nat.le_of_ble_eq_true hc.2
    cases (show y = _ from hy)
    have hx0 := hx
    simp only [DRel] at hx
    obtain ⟨a, xs, rfl, t, dr⟩ := hx
    rw [dr.length] at hn
    refine op_repA pins s σ H _ _ v u Q I rx ry ⟨a, k, xs, rfl, rfl, t.sq, by omega, by omega, hn, ?_⟩
    by_cases hk : xs = [] ∨ k = 1
    · refine .inl ⟨hk, sat.ok mr _ ?_⟩
      have : repD l k = l := by
        rcases hk with rfl | rfl
        · have : l = [] := List.eq_nil_of_length_eq_zero dr.length
          subst this
          simp [repD]
        · simp [repD]
      rw [this]
      exact hx0
    · simp only [not_or] at hk
      exact .inr ⟨hk.1, hk.2, fun p hp => new_tup (K := (kb X).no) mr (DRels.rep dr k.toNat) sat hp⟩
  · exact or_mul pins s σ H x y v u Q I rx ry ⟨mu, M, dx, dy, mr, hx, hy, sat⟩
/-! ### stars in displays -/
def mStar (m : ME) (ms : MA) : MA := fun F r M => (m F r M).bind fun d M1 => match seqD M1 d with
  | some l => (match d with
    | .obj _ => .bad
    | _ => (ms F r M1).bind fun ds M2 => .ok (l ++ ds) M2)
  | none => .bad
theorem ok_astar {e : Expr} {p : Pos} {es : List Expr} {m : ME} {ms : MA} (h1 : OkE T C e m) (h2 : OkA T C es ms) : OkA T C (.Starred e p :: es) (mStar m ms) := by
  intro n X wx h
  refine PA.of (StX.pa_star (h1 n X wx h) (h2 n X wx h)) fun s H Q q => ?_
  obtain ⟨mu, M, r, mr, sr, sat⟩ := q
  refine ⟨mu, M, r, mr, sr, sat.bind.imp fun d M1 W1 l1 m1 s1 v dv => ?_⟩
  cases e1 : seqD M1 d with
  | none => rw [e1] at s1; exact s1.elim
  | some l =>
    rw [e1] at s1
    obtain ⟨a, xs, rfl, q, dr⟩ := seqD_at m1 e1 dv
    refine ⟨a, xs, rfl, q.symm, ?_⟩
    have s1' : Sat ((kx X wx).at s) W1 ((ms (callF T n) r M1).bind fun ds M2 => .ok (l ++ ds) M2) (PVs (kb X) Q) := by
      cases d with
      | obj _ => exact s1.elim
      | _ => exact s1
    refine ⟨W1.mu, M1, r, m1, sr.le l1, s1'.bind.imp fun ds M2 W2 l2 m2 s2 vs dvs => ?_⟩
    exact s2.ok m2 _ (DRels.append (DRels.le l2 l xs dr) dvs)
end RI

namespace RI
open PySem PySem.Spec PyProof.Rows L2
variable {T : Tb} {C : CC}
/-! ### all, any, sum of lists -/
def blsD : List D → Option (List Bool)
  | [] => some []
  | .bl b :: l => (blsD l).map (b :: ·)
  | _ => none
def intsD : List D → Option (List Int)
  | [] => some []
  | .int b :: l => (intsD l).map (b :: ·)
  | _ => none
theorem bls_rel {K : Kb} {W : Wd} : ∀ {l : List D} {bs : List Bool} {xs : List V}, blsD l = some bs → DRels K W l xs → xs = bs.map V.bl
  | [], bs, xs, h, r => by cases h; exact r
  | d :: l, bs, xs, h, r => by
    cases d with
    | bl b =>
      simp only [blsD, Option.map_eq_some_iff] at h
      obtain ⟨bs', h1, rfl⟩ := h
      obtain ⟨v, ys, rfl, hv, hr⟩ := r
      cases (show v = _ from hv)
      rw [bls_rel h1 hr]; rfl
    | _ => cases h
theorem ints_relD {K : Kb} {W : Wd} : ∀ {l : List D} {ns : List Int} {xs : List V}, intsD l = some ns → DRels K W l xs → xs = ns.map V.int
  | [], bs, xs, h, r => by cases h; exact r
  | d :: l, bs, xs, h, r => by
    cases d with
    | int b =>
      simp only [intsD, Option.map_eq_some_iff] at h
      obtain ⟨bs', h1, rfl⟩ := h
      obtain ⟨v, ys, rfl, hv, hr⟩ := r
      cases (show v = _ from hv)
      rw [ints_relD h1 hr]; rfl
    | _ => cases h
def allD (ds : List D) (M : Mem) : Res D := match ds with
  | [d] => (match (lstD M d).bind blsD with | some bs => .ok (.bl (bs.all id)) M | none => .bad)
  | _ => .bad
def anyD (ds : List D) (M : Mem) : Res D := match ds with
  | [d] => (match (lstD M d).bind blsD with | some bs => .ok (.bl (bs.any id)) M | none => .bad)
  | _ => .bad
def sumD (ds : List D) (M : Mem) : Res D := match ds with
  | [d] => (match (lstD M d).bind intsD with | some ns => .ok (.int ns.sum) M | none => .bad)
  | _ => .bad
theorem cr_allD {X : Cx} (hc : X.calm = true) : CallR X (.builtin "all") (rC (kb X) allD) := by
  intro pins s σ H xs us Q I r h
  obtain ⟨mu, M, ds, mr, dr, sat⟩ := h
  unfold allD at sat
  split at sat
  · obtain ⟨v, rfl, dv⟩ := rels1 dr
    split at sat
    · rename_i bs e
      obtain ⟨l, e1, e2⟩ := Option.bind_eq_some_iff.mp e
      obtain ⟨a, ys, rfl, q, r1⟩ := lstD_at mr e1 dv
      exact cr_all hc pins s σ H _ us Q I r ⟨a, bs, rfl, by rw [← bls_rel e2 r1]; exact q, sat.ok mr _ rfl⟩
    · exact sat.elim
  · exact sat.elim
theorem cr_anyD {X : Cx} (hc : X.calm = true) : CallR X (.builtin "any") (rC (kb X) anyD) := by
  intro pins s σ H xs us Q I r h
  obtain ⟨mu, M, ds, mr, dr, sat⟩ := h
  unfold anyD at sat
  split at sat
  · obtain ⟨v, rfl, dv⟩ := rels1 dr
    split at sat
    · rename_i bs e
      obtain ⟨l, e1, e2⟩ := Option.bind_eq_some_iff.mp e
      obtain ⟨a, ys, rfl, q, r1⟩ := lstD_at mr e1 dv
      exact cr_any hc pins s σ H _ us Q I r ⟨a, bs, rfl, by rw [← bls_rel e2 r1]; exact q, sat.ok mr _ rfl⟩
    · exact sat.elim
  · exact sat.elim
theorem cr_sumD {X : Cx} (hc : X.calm = true) : CallR X (.builtin "sum") (rC (kb X) sumD) := by
  intro pins s σ H xs us Q I r h
  obtain ⟨mu, M, ds, mr, dr, sat⟩ := h
  unfold sumD at sat
  split at sat
  · obtain ⟨v, rfl, dv⟩ := rels1 dr
    split at sat
    · rename_i bs e
      obtain ⟨l, e1, e2⟩ := Option.bind_eq_some_iff.mp e
      obtain ⟨a, ys, rfl, q, r1⟩ := lstD_at mr e1 dv
      exact cr_sum hc pins s σ H _ us Q I r ⟨a, bs, rfl, by rw [← ints_relD e2 r1]; exact q, sat.ok mr _ rfl⟩
    · exact sat.elim
  · exact sat.elim
/-! ### str(int) -/
def numS (i : Int) : List Nat := (toString i : Str).cps.toList
theorem numS_eq (i : Int) : (⟨(numS i).toArray⟩ : Str) = (toString i : Str) := by simp [numS]
def toStrD (ds : List D) (M : Mem) : Res D := match ds with
  | [.int i] => if Nat.ble i.natAbs 1000000000000000000 = true then .ok (.str (numS i)) M else .bad
  | _ => .bad
theorem log_ok {i : Int} (h : Nat.ble i.natAbs 1000000000000000000 = true) : i.natAbs.log2 < 1920 := by
  have h1 := Nat.le_of_ble_eq_true h
  by_cases h0 : i.natAbs = 0
  · rw [h0]; decide
  · rw [Nat.log2_lt h0]
    exact Nat.lt_of_le_of_lt h1 (by decide +kernel)
theorem cr_str {X : Cx} : CallR X (.type "str") (rC (kb X) toStrD) := by
  intro pins s σ H xs us Q I r h
  obtain ⟨mu, M, ds, mr, dr, sat⟩ := h
  unfold toStrD at sat
  split at sat
  · rename_i i
    obtain ⟨hc, sat⟩ := sat_ite sat
    obtain ⟨v, rfl, dv⟩ := rels1 dr
    cases (show v = _ from dv)
    exact call_str_int pins s σ H _ us Q I r ⟨i, rfl, log_ok hc, sat.ok mr _ (by show _ = _; rw [numS_eq])⟩
  · exact sat.elim
end RI

namespace RI
open PySem PySem.Spec PyProof.Rows L2
variable {T : Tb} {C : CC}
/-! ### data told apart -/
mutual
theorem toP_inj : ∀ a b : D, D.noObj a = true → D.noObj b = true → D.toP a = D.toP b → a = b
  | .non, b, _, hb, h => by cases b <;> simp_all [D.toP, D.noObj]
  | .bl x, b, _, hb, h => by cases b <;> simp_all [D.toP, D.noObj]
  | .int x, b, _, hb, h => by cases b <;> simp_all [D.toP, D.noObj]
  | .str x, b, _, hb, h => by cases b <;> simp_all [D.toP, D.noObj]
  | .tup x, b, ha, hb, h => by
    cases b with
    | tup y => simp only [D.toP, PyData.tuple.injEq] at h; rw [toPs_inj x y ha hb h]
    | _ => simp_all [D.toP, D.noObj]
  | .lst x, b, ha, hb, h => by
    cases b with
    | lst y => simp only [D.toP, PyData.list.injEq] at h; rw [toPs_inj x y ha hb h]
    | _ => simp_all [D.toP, D.noObj]
  | .obj x, b, ha, _, _ => by simp [D.noObj] at ha
  | .exn _ _ _, b, ha, _, _ => by simp [D.noObj] at ha
  | .ins _ _ _, b, ha, _, _ => by simp [D.noObj] at ha
theorem toPs_inj : ∀ a b : List D, D.noObjs a = true → D.noObjs b = true → D.toPs a = D.toPs b → a = b
  | [], [], _, _, _ => rfl
  | [], y :: b, _, _, h => by simp [D.toPs] at h
  | x :: a, [], _, _, h => by simp [D.toPs] at h
  | x :: a, y :: b, ha, hb, h => by
    simp only [D.noObjs, Bool.and_eq_true] at ha hb
    simp only [D.toPs, List.cons.injEq] at h
    rw [toP_inj x y ha.1 hb.1 h.1, toPs_inj a b ha.2 hb.2 h.2]
end
theorem toPs_get : ∀ (l : List D) (i : Nat), (D.toPs l)[i]? = l[i]?.map D.toP
  | [], i => by simp [D.toPs]
  | d :: l, 0 => by simp [D.toPs]
  | d :: l, i + 1 => by simp [D.toPs, toPs_get l i]
theorem toPs_eq : ∀ l : List D, D.toPs l = l.map D.toP
  | [] => rfl
  | d :: l => by simp only [D.toPs, List.map_cons, toPs_eq l]
theorem noObjs_mem {l : List D} (h : D.noObjs l = true) {d : D} (hd : d ∈ l) : D.noObj d = true := by
  induction l with
  | nil => cases hd
  | cons x l ih =>
    simp only [D.noObjs, Bool.and_eq_true] at h
    rcases List.mem_cons.mp hd with rfl | hd
    · exact h.1
    · exact ih h.2 hd
/-- all of one kind, place by place -/
def alkD (l : List D) : Bool := (D.toPs l).all fun x => (D.toPs l).all fun y => PySem.W.alike x y
def ltDD (a b : D) : Bool := PySem.W.dataLt (D.toP a) (D.toP b)
/-- what can be ordered: data of one kind, not None, not deep -/
def ordL (l : List D) : Bool := D.noObjs l && alkD l && l.all D.noN && Nat.ble (PyData.depthAll (D.toPs l)) 60
theorem ordL_all {l : List D} (h : ordL l = true) : D.noObjs l = true ∧ PySem.W.AlikeAll (D.toPs l) ∧ PyData.depthAll (D.toPs l) ≤ 60 := by
  simp only [ordL, Bool.and_eq_true] at h
  obtain ⟨⟨⟨h1, h2⟩, h3⟩, h4⟩ := h
  refine ⟨h1, ⟨fun x hx y hy => ?_, fun x hx => ?_⟩, Nat.le_of_ble_eq_true h4⟩
  · exact List.all_eq_true.mp (List.all_eq_true.mp h2 x hx) y hy
  · rw [toPs_eq] at hx
    obtain ⟨d, hd, rfl⟩ := List.mem_map.mp hx
    exact noN_ne (List.all_eq_true.mp h3 d hd) (noObjs_mem h1 hd)
def minL (x : D) (l : List D) : D := l.foldl (fun a y => if ltDD y a then y else a) x
def maxL (x : D) (l : List D) : D := l.foldl (fun a y => if ltDD a y then y else a) x
theorem minL_toP : ∀ (l : List D) (x : D), D.toP (minL x l) = PySem.W.minD (D.toP x) (D.toPs l)
  | [], x => rfl
  | y :: l, x => by
    have ih := minL_toP l (if ltDD y x then y else x)
    simp only [minL, PySem.W.minD, D.toPs, List.foldl_cons] at ih ⊢
    rw [ih]
    congr 1
    unfold ltDD
    split <;> rfl
theorem maxL_toP : ∀ (l : List D) (x : D), D.toP (maxL x l) = PySem.W.maxD (D.toP x) (D.toPs l)
  | [], x => rfl
  | y :: l, x => by
    have ih := maxL_toP l (if ltDD x y then y else x)
    simp only [maxL, PySem.W.maxD, D.toPs, List.foldl_cons] at ih ⊢
    rw [ih]
    congr 1
    unfold ltDD
    split <;> rfl
theorem minL_mem : ∀ (l : List D) (x : D), minL x l ∈ x :: l
  | [], x => List.mem_cons_self
  | y :: l, x => by
    have ih := minL_mem l (if ltDD y x then y else x)
    simp only [minL, List.foldl_cons] at ih ⊢
    rcases List.mem_cons.mp ih with h | h
    · rw [h]; split <;> simp
    · exact List.mem_cons_of_mem _ (List.mem_cons_of_mem _ h)
theorem maxL_mem : ∀ (l : List D) (x : D), maxL x l ∈ x :: l
  | [], x => List.mem_cons_self
  | y :: l, x => by
    have ih := maxL_mem l (if ltDD x y then y else x)
    simp only [maxL, List.foldl_cons] at ih ⊢
    rcases List.mem_cons.mp ih with h | h
    · rw [h]; split <;> simp
    · exact List.mem_cons_of_mem _ (List.mem_cons_of_mem _ h)
/-- the item that reads as d is d -/
theorem item_is {X : Cx} {pins : List (Addr × Obj)} {σ : L2.St} {H : Hp} {s : Shared} {mu : Mu} (I : Inv X pins σ H s) {l : List D} {xs : List V} {us : List Value} (hn : D.noObjs l = true) (ha : PySem.W.AlikeAll (D.toPs l)) (dr : DRels (kb X) ⟨H, mu⟩ l xs) (rv : Vals xs us) {i : Nat} {v : Value} (hv : us[i]? = some v) {h' : Heap} {bs : List Addr} {d : D} (hd : d ∈ l) (r : Reads h' v (D.toP d) bs) (hk : ∀ b o, s.heap.get? b = some o → h'.get? b = some o) : ∃ x, DRel (kb X) ⟨H, mu⟩ d x ∧ RelV x v := by
  have hl1 := dr.length
  have hl2 := rv.length
  have hi : i < us.length := by
    by_cases q : i < us.length
    · exact q
    · rw [List.getElem?_eq_none (by omega)] at hv; cases hv
  have h1 : l[i]? = some (l[i]'(by omega)) := List.getElem?_eq_getElem _
  obtain ⟨x, hx, dx⟩ := dr.get h1
  have rx : RelV x v := by
    have key : ∀ {xs : List V} {us : List Value}, Vals xs us → ∀ (i : Nat) (x : V) (v : Value), xs[i]? = some x → us[i]? = some v → RelV x v := by
      intro xs us p
      induction p with
      | nil => intro i x v e; simp at e
      | cons r t ih =>
        intro i x v e1 e2
        cases i with
        | zero => simp at e1 e2; subst e1; subst e2; exact r
        | succ i => exact ih i x v (by simpa using e1) (by simpa using e2)
    exact key rv i x v hx hv
  have hm : l[i]'(by omega) ∈ l := List.getElem_mem _
  obtain ⟨as, r2⟩ := Dp.reads I _ x v (D.dp _ x (noObjs_mem hn hm) dx) rx
  have e := PySem.W.alike_unique (D.toP d) (D.toP (l[i]'(by omega))) v _ _ (ha.1 _ (by rw [toPs_eq]; exact List.mem_map.mpr ⟨d, hd, rfl⟩) _ (by rw [toPs_eq]; exact List.mem_map.mpr ⟨_, hm, rfl⟩)) r (PySem.W.reads_keeps hk r2)
  rw [toP_inj _ _ (noObjs_mem hn hd) (noObjs_mem hn hm) e]
  exact ⟨x, dx, rx⟩
def minLD (ds : List D) (M : Mem) : Res D := match ds with
  | [d] => (match lstD M d with | some (x :: l) => if ordL (x :: l) = true then .ok (minL x l) M else .bad | _ => .bad)
  | _ => min2D ds M
def maxLD (ds : List D) (M : Mem) : Res D := match ds with
  | [d] => (match lstD M d with | some (x :: l) => if ordL (x :: l) = true then .ok (maxL x l) M else .bad | _ => .bad)
  | _ => max2D ds M
theorem cr_minL {X : Cx} (hc : X.calm = true) (hu : X.A.units + 65 < cLine) : CallR X (.builtin "min") (rC (kb X) minLD) := by
  intro pins s σ H xs us Q I r h
  obtain ⟨mu, M, ds, mr, dr, sat⟩ := h
  unfold minLD at sat
  split at sat
  · obtain ⟨v, rfl, dv⟩ := rels1 dr
    split at sat
    · rename_i x l e
      obtain ⟨ho, sat⟩ := sat_ite sat
      obtain ⟨h1, h2, h3⟩ := ordL_all ho
      obtain ⟨a, ys, rfl, q, r1⟩ := lstD_at mr e dv
      obtain ⟨its, rv, pl, _⟩ := I.list q
      obtain ⟨as, rd⟩ := Dp.readsAll I _ ys its (D.dps _ ys h1 r1) rv
      obtain rfl := Vals.ref1 r
      refine PySem.W.min_list_data (I.ok.hd hc) pl.isList (by simpa [D.toPs] using rd) h2 (by simp only [D.toPs] at h3; omega) fun i v h' tk bs hv hr hk => ?_
      rw [← minL_toP l x] at hr
      obtain ⟨z, dz, rz⟩ := item_is I h1 h2 r1 rv (by simpa using hv) (minL_mem l x) hr hk
      exact ⟨z, H, I.kept hk, rz, sat.ok mr _ dz⟩
    · exact sat.elim
  · exact cr_min2 hc pins s σ H xs us Q I r ⟨mu, M, ds, mr, dr, sat⟩
theorem cr_maxL {X : Cx} (hc : X.calm = true) (hu : X.A.units + 65 < cLine) : CallR X (.builtin "max") (rC (kb X) maxLD) := by
  intro pins s σ H xs us Q I r h
  obtain ⟨mu, M, ds, mr, dr, sat⟩ := h
  unfold maxLD at sat
  split at sat
  · obtain ⟨v, rfl, dv⟩ := rels1 dr
    split at sat
    · rename_i x l e
      obtain ⟨ho, sat⟩ := sat_ite sat
      obtain ⟨h1, h2, h3⟩ := ordL_all ho
      obtain ⟨a, ys, rfl, q, r1⟩ := lstD_at mr e dv
      obtain ⟨its, rv, pl, _⟩ := I.list q
      obtain ⟨as, rd⟩ := Dp.readsAll I _ ys its (D.dps _ ys h1 r1) rv
      obtain rfl := Vals.ref1 r
      refine PySem.W.max_list_data (I.ok.hd hc) pl.isList (by simpa [D.toPs] using rd) h2 (by simp only [D.toPs] at h3; omega) fun i v h' tk bs hv hr hk => ?_
      rw [← maxL_toP l x] at hr
      obtain ⟨z, dz, rz⟩ := item_is I h1 h2 r1 rv (by simpa using hv) (maxL_mem l x) hr hk
      exact ⟨z, H, I.kept hk, rz, sat.ok mr _ dz⟩
    · exact sat.elim
  · exact cr_max2 hc pins s σ H xs us Q I r ⟨mu, M, ds, mr, dr, sat⟩
/-! ### sorted(list) -/
def leDD (a b : D) : Bool := !ltDD b a
def srtL (l : List D) : List D := l.mergeSort leDD
/-- all are tuples with an item, or none is a tuple -/
def sbl (l : List D) : Bool := (l.all fun d => match d with | .tup (_ :: _) => true | _ => false) || l.all fun d => match d with | .tup _ => false | _ => true
def srtD (ds : List D) (M : Mem) : Res D := match ds with
  | [d] => (match seqD M d with | some l => if (ordL l && sbl l) = true then .ok (.lst (srtL l)) M else .bad | none => .bad)
  | _ => .bad
theorem each_of {K : Kb} {W : Wd} : ∀ {l : List D} {xs : List V} {us : List Value}, DRels K W l xs → Vals xs us → PySem.W.EachIs (fun u d => ∃ x, RelV x u ∧ DRel K W d x) us l
  | [], xs, us, h, r => by
    cases (show xs = [] from h); cases r; exact .nil
  | d :: l, xs, us, h, r => by
    obtain ⟨v, ys, rfl, hv, hr⟩ := h
    cases r with
    | cons r1 r2 => exact .cons ⟨v, r1, hv⟩ (each_of hr r2)
theorem of_each {K : Kb} {W : Wd} {us : List Value} {l : List D} (h : PySem.W.EachIs (fun u d => ∃ x, RelV x u ∧ DRel K W d x) us l) : ∃ xs, Vals xs us ∧ DRels K W l xs := by
  induction h with
  | nil => exact ⟨[], .nil, rfl⟩
  | cons h1 _ ih =>
    obtain ⟨xs, r, d⟩ := ih
    obtain ⟨x, rx, dx⟩ := h1
    exact ⟨x :: xs, .cons rx r, ⟨x, xs, rfl, dx, d⟩⟩
theorem sbl_ok {l : List D} (h : sbl l = true) (hN : PySem.W.AlikeAll (D.toPs l)) : PySem.W.Sortable (D.toPs l) := by
  simp only [sbl, Bool.or_eq_true] at h
  rcases h with h | h
  · refine .inl fun p hp => ?_
    rw [toPs_eq] at hp
    obtain ⟨d, hd, rfl⟩ := List.mem_map.mp hp
    have := List.all_eq_true.mp h d hd
    cases d with
    | tup l => cases l with
      | nil => cases this
      | cons x r => exact ⟨_, _, rfl⟩
    | _ => cases this
  · refine .inr fun p hp => ⟨hN.2 p hp, fun xs e => ?_⟩
    rw [toPs_eq] at hp
    obtain ⟨d, hd, rfl⟩ := List.mem_map.mp hp
    have := List.all_eq_true.mp h d hd
    cases d with
    | tup l => cases this
    | _ => simp [D.toP] at e
theorem depth_mem {l : List PyData} {p : PyData} (h : p ∈ l) : p.depth ≤ PyData.depthAll l := by
  induction l with
  | nil => cases h
  | cons x l ih =>
    simp only [PyData.depthAll]
    rcases List.mem_cons.mp h with rfl | h
    · omega
    · have := ih h; omega
theorem each_imp {α β : Type} {R R' : α → β → Prop} {as : List α} {bs : List β} (h : PySem.W.EachIs R as bs) (f : ∀ a b, b ∈ bs → R a b → R' a b) : PySem.W.EachIs R' as bs := by
  induction h with
  | nil => exact .nil
  | cons h1 _ ih => exact .cons (f _ _ List.mem_cons_self h1) (ih fun a b hb => f a b (List.mem_cons_of_mem _ hb))
theorem each_map {α β γ : Type} {R : α → γ → Prop} {g : β → γ} {as : List α} {bs : List β} (h : PySem.W.EachIs (fun a b => R a (g b)) as bs) : PySem.W.EachIs R as (bs.map g) := by
  induction h with
  | nil => exact .nil
  | cons h1 _ ih => exact .cons h1 ih
section
open PySem.W
variable {prog : Program} {w : World} {A : Around} {E : Value → Shared → Prop} {s : Shared}
/-- a list or a tuple stands at l -/
def SeqAt (h : Heap) (l : Addr) (vs : List Value) : Prop := ∃ o n, h.get? l = some o ∧ (o.cls = .type "list" ∨ o.cls = .type "tuple") ∧ o.data = .seq vs.toArray n
theorem gather {l : Addr} {vs : List Value} {Q : List Value → Shared → Prop} (hl : SeqAt s.heap l vs) (hz : vs.length ≤ sizeLine)
    (h : Q vs { s with heap := (s.heap.push (seqObj "list" #[] 0)).update s.heap.objs.size (Obj.mapSeq (· ++ vs.toArray)) }) : wpAny (model prog w) A (collect (.ref l)) Q E s := by
  obtain ⟨o, n, ho, hc, hd⟩ := hl
  rcases hc with hc | hc
  · exact collect_list ⟨o, ho, hc, n, hd⟩ h hz
  have e0 := Heap.get?_push_of_some (seqObj "list" #[] 0) ho
  have e1 : (s.heap.push (seqObj "list" #[] 0)).get? s.heap.objs.size = some (seqObj "list" #[] 0) := Heap.get?_push_size _ rfl
  unfold collect
  refine wpAny_bind (wpAny_runValue (codeAny_builtin entry_proto_collect' ?step))
  case step =>
    change wpAny _ _ (do again (.builtin "list.__iadd__" ⟨[← newList [], .ref l], []⟩)) _ _ s
    refine wpAny_bind (wpAny_newList (wpAny_pure ⟨Code.quiet_builtin _ (by decide +kernel), codeAny_builtin entry_list_iadd' ?add⟩))
    case add =>
      change wpAny _ _ (Builtin.List.listExtendWith (.ref s.heap.objs.size) (.ref l) (.ref s.heap.objs.size)) _ _ { s with heap := s.heap.push (seqObj "list" #[] 0) }
      unfold Builtin.List.listExtendWith
      refine wpAny_bind (wpAny_typeOf (T := "tuple") ⟨o, e0, hc⟩ ?_)
      have tt : (Value.type "tuple" == Value.type "tuple") = true := by rfl
      rw [if_pos (by rw [tt]; simp)]
      refine wpAny_bind (listItems_at e0 hd (wpAny_bind (listItems_at (xs := #[]) (n := 0) e1 rfl ?_)))
      rw [if_neg (by simp)]
      refine wpAny_bind (listUpdate_at (xs := #[]) (n := 0) e1 rfl (wpAny_pure ?_) (Nat.zero_le _) (by simp only [Array.size_append, List.size_toArray, List.length_nil]; omega))
      refine wpAny_bind (wpAny_load (get?_update_seq e1 _) ?_)
      change wpAny _ _ (pure ((#[] : Array Value) ++ vs.toArray).toList) Q E _
      have : ((#[] : Array Value) ++ vs.toArray).toList = vs := by simp
      rw [this]
      exact wpAny_pure h
theorem sorted_seq {κ : KeyKind} {l : Addr} {vs : List Value} {Q : Value → Shared → Prop} (hl : SeqAt s.heap l vs) (S : SortsAt prog w A.in1.in1 { s with heap := sortingHeap (copyHeap s.heap vs) (s.heap.objs.size + 1) vs } κ vs) (hL : vs.length ≤ sizeLine)
    (h : Q (.ref (s.heap.objs.size + 1)) { s with heap := sortedAll s.heap vs (sortVals κ false vs vs).toArray }) : wpAny (model prog w) A (call (.builtin "sorted") [.ref l]) Q E s := by
  refine call_function_entry_kw kind_sorted plain_sorted entry_sorted (args_sorted1 _) ?_
  unfold Builtin.«sorted»
  refine wpAny_bind (m := checkCount "sorted" 1 1 _) (wpAny_pure (wpAny_bind (gather hl hL (wpAny_bind (wpAny_newList ?_ hL)))))
  have sz : (copyHeap s.heap vs).objs.size = s.heap.objs.size + 1 + 1 ∧ ((s.heap.push (seqObj "list" #[] 0)).update s.heap.objs.size (Obj.mapSeq (· ++ vs.toArray))).objs.size = s.heap.objs.size + 1 := ⟨by unfold copyHeap; rw [size_push', Heap.size_update, size_push'], by rw [Heap.size_update, size_push']⟩
  change wpAny _ _ _ _ _ { s with heap := copyHeap s.heap vs }
  rw [sz.2]
  refine wpAny_bind (wpAny_holding (wpAny_call_entry_kw slot_list_sort ⟨_, copyHeap_at s.heap vs, rfl⟩ entry_list_sort ?_ (args_list_sort _)))
  change wpAny (model prog w) A.in1.in1 (Builtin.«list.sort» ⟨[.ref (s.heap.objs.size + 1)], []⟩) _ _ _
  exact list_sort_vals (s := { s with heap := copyHeap s.heap vs }) (copyHeap_at s.heap vs) S hL ⟨_, rfl, wpAny_pure ⟨_, rfl, h⟩⟩
theorem seqAt_of {X : Cx} {pins : List (Addr × Obj)} {σ : L2.St} {H : Hp} (I : Inv X pins σ H s) {a : Addr} {xs : List V} (q : SqL X.K H a xs ∨ SqT X.K H a xs) : ∃ its : List Value, Vals xs its ∧ SeqAt s.heap a its ∧ xs.length ≤ sizeLine := by
  rcases q with q | q
  · obtain ⟨its, rv, pl, hz⟩ := I.list q
    obtain ⟨o, ho, hc, n, hd⟩ := pl.isList
    exact ⟨its, rv, ⟨o, n, ho, .inl hc, hd⟩, hz⟩
  · obtain ⟨its, rv, ⟨o, ho, hc, n, hd⟩, hz⟩ := I.tuple q
    exact ⟨its, rv, ⟨o, n, ho, .inr hc, hd⟩, hz⟩
end
theorem cr_sortedL {X : Cx} (hu : X.A.units + 70 < cLine) : CallR X (.builtin "sorted") (rC (kb X) srtD) := by
  intro pins s σ H xs us Q I r h
  obtain ⟨mu, M, ds, mr, dr, sat⟩ := h
  unfold srtD at sat
  split at sat
  · obtain ⟨v, rfl, dv⟩ := rels1 dr
    split at sat
    · rename_i l e
      obtain ⟨hc, sat⟩ := sat_ite sat
      simp only [Bool.and_eq_true] at hc
      obtain ⟨h1, h2, h3⟩ := ordL_all hc.1
      obtain ⟨a, ys, rfl, q, r1⟩ := seqD_at mr e dv
      obtain ⟨its, rv, pl, hz⟩ := seqAt_of I q
      obtain rfl := Vals.ref1 r
      have hL : its.length ≤ sizeLine := by rw [← rv.length]; exact hz
      have e0 := each_of r1 rv
      have rds : ∀ u d, d ∈ l → (∃ x, RelV x u ∧ DRel (kb X) ⟨H, mu⟩ d x) → ∃ as, Reads s.heap u (D.toP d) as := fun u d hd ⟨x, rx, dx⟩ => Dp.reads I _ x u (D.dp d x (noObjs_mem h1 hd) dx) rx
      have old : ∀ b o, s.heap.get? b = some o → (PySem.W.sortingHeap (PySem.W.copyHeap s.heap its) (s.heap.objs.size + 1) its).get? b = some o := fun b o eb => PySem.W.sorting_copy_old eb
      have eR : PySem.W.EachIs (fun u d => ∃ as, Reads (PySem.W.sortingHeap (PySem.W.copyHeap s.heap its) (s.heap.objs.size + 1) its) u d as) its (D.toPs l) := by
        rw [toPs_eq]
        exact each_map (each_imp e0 fun u d hd hx => by
          obtain ⟨as, ra⟩ := rds u d hd hx
          exact ⟨as, PySem.W.reads_keeps old ra⟩)
      have hal : PySem.W.AllAlike (D.toPs l) := fun d hd d' hd' => h2.1 d hd d' hd'
      refine sorted_seq pl (PySem.W.SortsAt.data (A := X.A.in1.in1) eR hal (sbl_ok hc.2 h2) (fun d hd => ?_)) hL ?_
      · have := depth_mem hd
        show X.A.units + 1 + 1 + _ < _
        omega
      · have eS := PySem.W.sortVals_each (rev := false) (κ := PySem.W.dataKind (PySem.W.sortingHeap (PySem.W.copyHeap s.heap its) (s.heap.objs.size + 1) its) (D.toPs l)) (fun d : D => PySem.W.keyToks (D.toP d)) e0 (each_imp e0 fun u d hd hx => by
          obtain ⟨as, ra⟩ := rds u d hd hx
          exact PySem.W.dataKind_some hal (by rw [toPs_eq]; exact List.mem_map.mpr ⟨d, hd, rfl⟩) (PySem.W.reads_keeps old ra))
        obtain ⟨zs, vz, dz⟩ := of_each eS
        obtain ⟨ee, he⟩ := sortedAll_at s.heap its (PySem.W.sortVals (PySem.W.dataKind (PySem.W.sortingHeap (PySem.W.copyHeap s.heap its) (s.heap.objs.size + 1) its) (D.toPs l)) false its its).toArray
        have hn : H (s.heap.objs.size + 1) = none := I.hok.fresh (Nat.le_add_right _ _)
        have hzl : zs.length ≤ sizeLine := by
          rw [vz.length, PySem.W.sortVals_length false rfl]; exact hL
        refine ⟨.ref (s.heap.objs.size + 1), _, I.laid (t' := s.toks) (o := .lst zs) (fun b o eb => sortedAll_old eb) (Nat.le_add_right _ _) ⟨hzl, _, ee, vz, he⟩, rfl, ?_⟩
        exact new_lst (K := (kb X).no) mr (show DRels (kb X) ⟨H, mu⟩ (srtL l) zs from dz) sat hn
    · exact sat.elim
  · exact sat.elim
end RI

namespace RI
open PySem PySem.Spec PyProof.Rows L2 RZ
variable {T : Tb} {C : CC}
/-! ### d.get(k, x) -/
def isDctD (M : Mem) (d : D) : Bool := (dctD M d).isSome || (dksD M d).isSome
def getD2 (o k d : D) (M : Mem) : Res D := match dctD M o with
  | some l => if D.isKey k = true then .ok ((dgetD (D.toK k) l).getD d) M else .bad
  | none => match dksD M o with
    | some l => (match D.key1 k with | some k => .ok ((dkget k l).getD d) M | none => .bad)
    | none => .bad
def mGet2 (mo mk md : ME) : ME := fun F r M => (mo F r M).bind fun o M1 => if isDctD M1 o = true then (mk F r M1).bind fun k M2 => (md F r M2).bind fun d M3 => (getD2 o k d M3).noX else .bad
theorem isDct_at {X : Cx} {pins : List (Addr × Obj)} {σ : L2.St} {H : Hp} {s : Shared} {mu : Mu} {M : Mem} (I : Inv X pins σ H s) (mr : MRel (kb X) ⟨H, mu⟩ M) {d : D} {v : V} (h : isDctD M d = true) (dv : DRel (kb X) ⟨H, mu⟩ d v) : ∃ a, v = .ref a ∧ s.TypeIs (.ref a) "dict" ∧ ∀ b, Value.ref a = .ref b → ∃ ob, s.heap.get? b = some ob ∧ ob.dict = none := by
  unfold isDctD at h
  cases e : dctD M d with
  | some l =>
    obtain ⟨j, lk, rfl, ej⟩ := dctD_obj e
    simp only [DRel] at dv
    obtain ⟨a, rfl, ha⟩ := dv
    obtain ⟨xs, h1, hd, h3, h4, h5⟩ := dct_at I mr ha ej
    refine ⟨a, rfl, hd.typeIs, fun b eb => ?_⟩
    cases eb
    obtain ⟨ob, _, _, g1, g2, _⟩ := hd
    exact ⟨ob, g1, g2.2.1⟩
  | none =>
    rw [e] at h
    simp only [Option.isSome_none, Bool.false_or] at h
    obtain ⟨l, e⟩ := Option.isSome_iff_exists.mp h
    obtain ⟨j, lk, rfl, ej⟩ := dksD_obj e
    simp only [DRel] at dv
    obtain ⟨a, rfl, ha⟩ := dv
    obtain ⟨kvs, g1, g2⟩ := dks_at mr ha ej
    obtain ⟨t1, t2, _⟩ := isD_at I (.inl ⟨kvs, g1.rd⟩)
    exact ⟨a, rfl, t1, t2⟩
theorem get2_run {X : Cx} {pins : List (Addr × Obj)} {σ : L2.St} {H : Hp} {s : Shared} {mu : Mu} {M : Mem} {wx : Ex → L2.St → Wd → Prop} (hu : X.A.units + 65 < cLine) (I : Inv X pins σ H s) (mr : MRel (kb X) ⟨H, mu⟩ M) {o k d : D} {v y z : V} {u r q : Value} (dv : DRel (kb X) ⟨H, mu⟩ o v) (dk : DRel (kb X) ⟨H, mu⟩ k y) (dd : DRel (kb X) ⟨H, mu⟩ d z) (rv : RelV v u) (rk : RelV y r) (rz : RelV z q) {Q : VK} (sat : Sat ((kx X wx).at σ) ⟨H, mu⟩ (getD2 o k d M) (PV (kb X) Q)) :
    wpAny (model X.prog X.w) X.A (call (.builtin "dict.get") [u, r, q]) (fun w s' => ∃ v' H', Inv X pins σ H' s' ∧ RelV v' w ∧ Q v' H') X.xe s := by
  unfold getD2 at sat
  split at sat
  · rename_i l e
    obtain ⟨j, lk, rfl, ej⟩ := dctD_obj e
    obtain ⟨hk, sat⟩ := sat_ite sat
    simp only [DRel] at dv
    obtain ⟨a, rfl, ha⟩ := dv
    cases rv
    obtain ⟨ka, rfl, rfl, hki⟩ := isKey_is I hk dk rk
    obtain ⟨xs, h1, hd, h3, h4, h5⟩ := dct_at I mr ha ej
    refine call_meetsIn F.slot_dict_get hd.typeIs F.entry_dict_get (F.args_dict_get_3 _ _ _) (meetsH_dict_get_default (nestedKind X.prog X.w) a ka h4 q) ⟨room_k hu, D.toK k, xs, hki, hd, ?_⟩
    cases ed : dgetD (D.toK k) l with
    | some e' =>
      obtain ⟨p, hp, v', dv', rv'⟩ := (dget_rel (D.toK k) h5).1 e' ed
      rw [ed] at sat
      refine ⟨v', H, I.tok _, ?_, sat.ok mr _ dv'⟩
      rw [hp]; exact rv'
    | none =>
      have hp := (dget_rel (D.toK k) h5).2 ed
      rw [ed] at sat
      refine ⟨z, H, I.tok _, ?_, sat.ok mr _ dd⟩
      rw [hp]; exact rz
  split at sat
  · rename_i l e
    obtain ⟨j, lk, rfl, ej⟩ := dksD_obj e
    split at sat
    · rename_i k1 ek
      simp only [DRel] at dv
      obtain ⟨a, rfl, ha⟩ := dv
      cases rv
      have hyk := key1_kV ek dk
      obtain ⟨kvs, g1, g2⟩ := dks_at mr ha ej
      have g : DGet H a y (valV kvs k1) := .inl ⟨kvs, k1, g1.rd, hyk, rfl⟩
      refine d_get2 (by omega) I g rk rz fun w' s3 I3 rw' => ⟨_, H, I3, rw', ?_⟩
      cases ed : dkget k1 l with
      | some e' =>
        obtain ⟨v', hv, dv'⟩ := (dkget_rel k1 g2).1 e' ed
        rw [ed] at sat
        rw [hv]
        exact sat.ok mr _ dv'
      | none =>
        rw [(dkget_rel k1 g2).2 ed]
        rw [ed] at sat
        exact sat.ok mr _ dd
    · exact sat.elim
  · exact sat.elim
theorem ok_get2 {o e f : Expr} {name : Str} {apos cpos : Pos} {mo mk md : ME} (hn : name = "get") (hb : noSup o = true) (hl : (apos.endLine == cpos.line) = true) (hs : noStar e = true) (hs' : noStar f = true) (ho : OkE T C o mo) (he : OkE T C e mk) (hf : OkE T C f md) : OkE T C (.Call (.Attribute o name apos) [e, f] [] cpos) (mGet2 mo mk md) := by
  subst hn
  intro n X wx h
  have hu : X.A.units + 65 < cLine := by have := h.un; omega
  have tr : backTo cpos (starEach [e, f] X.env) = [(false, eval e X.env), (false, eval f X.env)] := by
    have e1 : starEach [e, f] X.env = (false, eval e X.env) :: starEach [f] X.env := by cases e <;> first | rfl | cases hs
    have e2 : starEach [f] X.env = [(false, eval f X.env)] := by cases f <;> first | rfl | cases hs'
    rw [e1, e2]
    rfl
  refine ⟨fun pins s σ H Q I q => ?_⟩
  obtain ⟨mu, M, r, mr, sr, sat⟩ := q
  have p1 := (ho n X wx h).run pins s σ H (fun v H1 => ∃ mu1 M1 o, MRel (kb X) ⟨H1, mu1⟩ M1 ∧ SRel (kb X) ⟨H1, mu1⟩ σ r ∧ DRel (kb X) ⟨H1, mu1⟩ o v ∧ isDctD M1 o = true ∧ Sat ((kx X wx).at σ) ⟨H1, mu1⟩ ((mk (callF T n) r M1).bind fun k M2 => (md (callF T n) r M2).bind fun d M3 => (getD2 o k d M3).noX) (PV (kb X) Q)) I ⟨mu, M, r, mr, sr, sat.bind.imp fun d M1 W1 l1 m1 s1 v dv => by
    obtain ⟨hk, s1⟩ := sat_ite s1
    exact ⟨W1.mu, M1, d, m1, sr.le l1, dv, hk, s1⟩⟩
  refine wpAny_Call_method (nsb hb) (by rw [tr]; rfl) hl PySem.F.plainAttrs_dict PySem.F.slot_dict_get PySem.F.type_dict_get (thn p1 fun u s1 ⟨v, H1, I1, rx, mu1, M1, d, m1, sr1, dv, hk, sat1⟩ => ?_)
  obtain ⟨a, rfl, t1, t2⟩ := isDct_at I1 m1 hk dv
  have rx' := rx
  cases rx
  refine ⟨t1, t2, ?_⟩
  rw [tr]
  have p2 := (he n X wx h).run pins s1 σ H1 (fun y H2 => ∃ mu2 M2 k, MRel (kb X) ⟨H2, mu2⟩ M2 ∧ SRel (kb X) ⟨H2, mu2⟩ σ r ∧ DRel (kb X) ⟨H2, mu2⟩ d (.ref a) ∧ DRel (kb X) ⟨H2, mu2⟩ k y ∧ Sat ((kx X wx).at σ) ⟨H2, mu2⟩ ((md (callF T n) r M2).bind fun d' M3 => (getD2 d k d' M3).noX) (PV (kb X) Q)) I1 ⟨mu1, M1, r, m1, sr1, sat1.bind.imp fun k M2 W2 l2 m2 s2 y dy => ⟨W2.mu, M2, k, m2, sr1.le l2, DRel.le l2 _ _ dv, dy, s2⟩⟩
  refine Calls.callWith_builtin rfl (Calls.evalArgs_plain (Calls.spliced_cons (thn p2 fun iv s2 ⟨y, H2, I2, ry, mu2, M2, k, m2, sr2, dv2, dk2, sat2⟩ => Calls.spliced_cons (thn ((hf n X wx h).run pins s2 σ H2 (fun z H3 => ∃ mu3 M3 d', MRel (kb X) ⟨H3, mu3⟩ M3 ∧ DRel (kb X) ⟨H3, mu3⟩ d (.ref a) ∧ DRel (kb X) ⟨H3, mu3⟩ k y ∧ DRel (kb X) ⟨H3, mu3⟩ d' z ∧ Sat ((kx X wx).at σ) ⟨H3, mu3⟩ ((getD2 d k d' M3).noX) (PV (kb X) Q)) I2 ⟨mu2, M2, r, m2, sr2, sat2.bind.imp fun d' M3 W3 l3 m3 s3 z dz => ⟨W3.mu, M3, d', m3, DRel.le l3 _ _ dv2, DRel.le l3 _ _ dk2, dz, s3⟩⟩) fun fv s3 ⟨z, H3, I3, rz, mu3, M3, d', m3, dv3, dk3, dd3, sat3⟩ => Calls.spliced_nil ?_))))
  exact get2_run (wx := wx) hu I3 m3 dv3 dk3 dd3 rx' ry rz (by
    have := sat3
    cases eg : getD2 d k d' M3 with
    | ok a b => rw [eg] at this; exact this
    | bad => rw [eg] at this; exact this
    | exc a b => rw [eg] at this; exact this.elim)
/-! ### zip of two tuples -/
def zipD : List D → List D → List D
  | a :: r, b :: r' => .tup [a, b] :: zipD r r'
  | _, _ => []
theorem zipD_len : ∀ a b : List D, (zipD a b).length = min a.length b.length
  | [], _ => by simp [zipD]
  | _ :: _, [] => by simp [zipD]
  | _ :: a, _ :: b => by simp [zipD, zipD_len a b]
theorem zipD_get : ∀ (a b : List D) (i : Nat) (d : D), (zipD a b)[i]? = some d → ∃ x y, a[i]? = some x ∧ b[i]? = some y ∧ d = .tup [x, y]
  | [], _, i, d, h => by simp [zipD] at h
  | _ :: _, [], i, d, h => by simp [zipD] at h
  | x :: a, y :: b, 0, d, h => by simp [zipD] at h; exact ⟨x, y, by simp, by simp, h.symm⟩
  | x :: a, y :: b, i + 1, d, h => by
    simp only [zipD, List.getElem?_cons_succ] at h
    obtain ⟨u, v, h1, h2, h3⟩ := zipD_get a b i d h
    exact ⟨u, v, by simpa using h1, by simpa using h2, h3⟩
def mZip (ms : MA) : MI := fun F r M => (ms F r M).bind fun ds M1 => match ds with
  | [.tup a, .tup b] => .ok (zipD a b, none) M1
  | _ => .bad
theorem walk_zipT {K : PySem.W.Frag} {a b : Addr} {xs ys : List V} : Walk (ItzT K a b) (min xs.length ys.length) (fun H => SqT K H a xs ∧ SqT K H b ys) (YPair (fun i => xs[i]?) (fun i => ys[i]?)) := by
  refine ⟨fun i H hi q => ⟨xs, ys, xs[i], ys[i], q.1, q.2, by simp, by simp⟩, fun H q => ⟨xs, ys, q.1, q.2, by omega⟩, fun i H x H' hi q y => ?_⟩
  obtain ⟨p, v, u, e1, e2, e3, e4, e5⟩ := y
  exact ⟨p, v, u, e1, e2, e3, e4 xs q.1, e5 ys q.2⟩
theorem ok_izip {elts : List Expr} {kk : Nat} {tpos p pos : Pos} {e e2 : Expr} {ms : MA} {x : Str} (hx' : x = "zip") (hx : x ∈ T.blt) (hg : C.sc.names.lookup x = some .globalImplicit) (hs : noStar e = true) (hs2 : noStar e2 = true) (h : OkA T C [e, e2] ms) : OkI T C (.Tuple elts kk tpos) (.Call (.Name x p) [e, e2] [] pos) (mZip ms) := by
  intro n X wx q
  subst hx'
  refine PI.of (pi_zipA (gl_of q hg) (q.blt _ hx) (h n X wx q) (by cases e <;> first | rfl | cases hs) (by cases e2 <;> first | rfl | cases hs2)) fun s H R w => ?_
  obtain ⟨mu, M, r, mr, sr, sat⟩ := w
  refine ⟨mu, M, r, mr, sr, sat.bind.imp fun ds M1 W1 l1 m1 s1 vs dvs => ?_⟩
  split at s1
  · rename_i la lb
    obtain ⟨v, u, rfl, d1, d2⟩ := rels2 dvs
    simp only [DRel] at d1 d2
    obtain ⟨a, xs, rfl, t1, r1⟩ := d1
    obtain ⟨b, ys, rfl, t2, r2⟩ := d2
    refine ⟨a, b, xs, ys, rfl, .inr ⟨t1.sq, t2.sq, ?_⟩⟩
    refine s1 W1 (Le.refl _) m1 _ (walk_pair walk_zipT (fun W' l' => ⟨(t1.lk l').sq, (t2.lk l').sq⟩) (by rw [zipD_len, r1.length, r2.length]) fun i d v u e1 e2 e3 => ?_)
    obtain ⟨x, y, g1, g2, g3⟩ := zipD_get _ _ _ _ e1
    obtain ⟨v1, h1, h2⟩ := r1.get g1
    obtain ⟨v2, h3, h4⟩ := r2.get g2
    rw [h1] at e2; rw [h3] at e3
    cases e2; cases e3
    exact ⟨x, y, g3, h2, h4⟩
  · exact s1.elim
end RI

namespace RI
open PySem PySem.Spec PyProof.Rows L2
variable {T : Tb} {C : CC}

/-! ### append -/
def appD (o v : D) (M : Mem) : Res D := match o with
  | .obj j => match M[j]? with
    | some (.lst l) => if l.length < LIM ∧ D.bel j v = true then .ok .non (M.set j (.lst (l ++ [v]))) else .bad
    | _ => .bad
  | _ => .bad
def mApp (mo mv : ME) : ME := fun F r M => (mo F r M).bind fun o M1 => match o with
  | .obj j => match M1[j]? with
    | some (.lst _) => (mv F r M1).bind fun v M2 => (appD o v M2).noX
    | _ => .bad
  | _ => .bad
def noSuper : Expr → Bool
  | .Call .. => false
  | _ => true
theorem noSuper_base {o : Expr} {a : Str} {env : Env} {w : Sem Value} (h : noSuper o = true) : attributeBase o a env w = w := by
  cases o <;> first | rfl | cases h
theorem few_of {env : Env} {cpos : Pos} {e : Expr} (hs : noStar e = true) : ((backTo cpos (starEach [e] env)).all (fun x => !x.1) && (backToKw cpos (keywordEach [] env)).all (fun x => x.1.isSome)
      && decide (([e] : List Expr).length + ([] : List Keyword).length + (if ([] : List Keyword).isEmpty then 0 else 1) < 30)) = true := by
  rw [noStar_each hs]; rfl
theorem ok_append {o e : Expr} {name : Str} {apos cpos : Pos} {mo mv : ME} (hn : name = "append") (hb : noSuper o = true) (hl : (apos.endLine == cpos.line) = true) (hs : noStar e = true) (ho : OkE T C o mo) (he : OkE T C e mv) : OkE T C (.Call (.Attribute o name apos) [e] [] cpos) (mApp mo mv) := by
  intro n X wx h
  subst hn
  refine PE.of (pe_bm PySem.F.plainAttrs_list PySem.F.slot_list_append PySem.F.type_list_append mt_append (ho n X wx h) (pa_cons (he n X wx h) pa_nil (noStar_each hs)) (noSuper_base hb) (few_of hs) hl (noStar_each hs) (by rfl)) fun s H Q q => ?_
  obtain ⟨mu, M, r, mr, sr, sat⟩ := q
  refine ⟨mu, M, r, mr, sr, sat.bind.imp fun d M1 W1 l1 m1 s1 v dv => ?_⟩
  cases d with
  | obj j =>
    simp only [DRel] at dv
    obtain ⟨a, rfl, ha⟩ := dv
    cases e1 : M1[j]? with
    | none => simp only [e1] at s1; exact s1.elim
    | some o1 =>
    cases o1 with
    | dct _ l0 => simp only [e1] at s1; exact s1.elim
    | dks _ l0 => simp only [e1] at s1; exact s1.elim
    | ins _ l0 => simp only [e1] at s1; exact s1.elim
    | lst l0 =>
      simp only [e1] at s1
      obtain ⟨xs0, eh0, _, _⟩ := m1.obj j a _ ha e1
      refine ⟨.inl ⟨rfl, xs0, SqL.of eh0⟩, W1.mu, M1, r, m1, sr.le l1, (Sat.bind s1).imp fun w M2 W2 l2 m2 s2 wv dw => ?_⟩
      have s2 := s2.noX
      unfold appD at s2
      simp only at s2
      split at s2
      · rename_i l e2
        obtain ⟨⟨hz, hb⟩, s2⟩ := sat_ite s2
        have ha2 : W2.mu.l[j]? = some a := by
          have := DRel.le (K := kb X) l2 (.obj j) (.ref a) (by simp only [DRel]; exact ⟨a, rfl, ha⟩)
          simp only [DRel] at this
          obtain ⟨b, eb, hb⟩ := this
          cases eb; exact hb
        obtain ⟨xs, eh, dr, bl, nk⟩ := m2.obj j a _ ha2 e2
        refine ⟨a, xs, wv, rfl, rfl, eh, by rw [← dr.length, ← lim_eq]; exact hz, ?_⟩
        obtain ⟨l3, m3⟩ := m2.wrote ha2 nk (DRels.append dr (show DRels (kb X) W2 [w] [wv] from ⟨wv, [], rfl, dw, rfl⟩)) (bels_app bl (by simp [D.bels, hb]))
        exact s2 _ l3 m3 .non rfl
      · exact s2.elim
  | _ => exact s1.elim

/-! ### list comprehensions -/
def wipeE (r : EV) : List Nat → EV
  | [] => r
  | v :: vs => (wipeE r vs).set v none
theorem wipeE_len (r : EV) : ∀ vs, (wipeE r vs).length = r.length
  | [] => rfl
  | v :: vs => by unfold wipeE; rw [List.length_set, wipeE_len r vs]
theorem SRel.wipe {K : Kb} {W : Wd} {s : L2.St} {r : EV} (h : SRel K W s r) : ∀ vs, SRel K W (wipe s vs) (wipeE r vs)
  | [] => h
  | v :: vs => by
    have ih := SRel.wipe h vs
    unfold wipeE L2.wipe
    refine ⟨by simp [ih.len], fun j e hj => ?_⟩
    by_cases hij : v = j
    · subst hij
      by_cases hv : v < (wipeE r vs).length
      · rw [List.getElem?_set_self hv] at hj; cases hj
      · rw [List.getElem?_eq_none (by simpa using hv)] at hj; cases hj
    · rw [List.getElem?_set_ne hij] at hj ⊢
      exact ih.get j e hj
theorem wipe_set (s : L2.St) (i : Nat) (x : Option V) : ∀ vs, i ∈ vs → wipe (s.set i x) vs = wipe s vs
  | [], h => by cases h
  | v :: vs, h => by
    unfold L2.wipe
    by_cases hi : i ∈ vs
    · rw [wipe_set s i x vs hi]
    · have e : i = v := by
        rcases List.mem_cons.mp h with h | h
        · exact h
        · exact absurd h hi
      subst e
      have key : ∀ us : List Nat, i ∉ us → wipe (s.set i x) us = (wipe s us).set i x := by
        intro us
        induction us with
        | nil => intro _; rfl
        | cons u us ih =>
          intro hu
          simp only [List.mem_cons, not_or] at hu
          unfold L2.wipe
          rw [ih hu.2, List.set_comm _ _ hu.1]
      rw [key vs hi, List.set_set]
theorem wipe_wipe (s : L2.St) (vs : List Nat) : wipe (wipe s vs) vs = wipe s vs := by
  have key : ∀ us : List Nat, (∀ u ∈ us, u ∈ vs) → wipe (wipe s us) vs = wipe s vs := by
    intro us
    induction us with
    | nil => intro _; rfl
    | cons u us ih =>
      intro h
      conv => lhs; arg 1; unfold L2.wipe
      rw [wipe_set _ u none vs (h u List.mem_cons_self)]
      exact ih fun w hw => h w (List.mem_cons_of_mem _ hw)
  exact key vs fun u hu => hu
/-- targets that store in vs alone -/
def rdGc (K : Kx) (F : FT) (vs : List Nat) (m : MG) : TG := fun v s H Q => At K s H fun mu r M => ∃ d, DRel K ⟨H, mu⟩ d v ∧ Sat K.b.no ⟨H, mu⟩ (m F d r M) (fun r' _ W => ∀ s', SRel K W s' r' → wipe s' vs = wipe s vs → Q s' W.H)
def rdGsc (K : Kx) (F : FT) (vs : List Nat) (m : MGs) : TGs := fun v s H Q => At K s H fun mu r M => ∃ d, DRels K ⟨H, mu⟩ d v ∧ Sat K.b.no ⟨H, mu⟩ (m F d r M) (fun r' _ W => ∀ s', SRel K W s' r' → wipe s' vs = wipe s vs → Q s' W.H)
def OkGc (T : Tb) (C : CC) (vs : List Nat) (e : Expr) (m : MG) : Prop := ∀ n X wx, CxOk T n C X wx → PG X e (rdGc (kx X wx) (callF T n) vs m)
def OkGsc (T : Tb) (C : CC) (vs : List Nat) (es : List Expr) (m : MGs) : Prop := ∀ n X wx, CxOk T n C X wx → PGs X es (rdGsc (kx X wx) (callF T n) vs m)
theorem ok_gcname {i : Nat} {x : Str} {pos : Pos} {vs : List Nat} (hv : i ∈ vs) (hi : C.N[i]? = some x) (hl : C.sc.names.lookup x = some .local ∨ (C.sc.names.lookup x = some .cell ∧ C.fn x = true)) : OkGc T C vs (.Name x pos) (gN i) := by
  intro n X wx h
  obtain ⟨h1, h2⟩ := loc_of h hl
  refine PG.of (pg_name h.nd (by rw [h.N]; exact hi) h1 h2) fun v s H Q q => ?_
  obtain ⟨mu, M, r, mr, sr, d, dv, sat⟩ := q
  exact sat.ok mr _ (sr.set dv i) (wipe_set s i (some v) vs hv)
theorem ok_gscnil {vs : List Nat} : OkGsc T C vs [] gsNil := by
  intro n X wx h
  refine PGs.of pgs_nil fun v s H Q q => ?_
  obtain ⟨mu, M, r, mr, sr, ds, dv, sat⟩ := q
  cases ds with
  | nil => exact ⟨dv, sat.ok mr s sr rfl⟩
  | cons _ _ => exact sat.elim
theorem ok_gsccons {vs : List Nat} {e : Expr} {es : List Expr} {g : MG} {gs : MGs} (hs : noStarT e = true) (h1 : OkGc T C vs e g) (h2 : OkGsc T C vs es gs) : OkGsc T C vs (e :: es) (gsCons g gs) := by
  intro n X wx h
  refine PGs.of (pgs_cons (h1 n X wx h) (h2 n X wx h) (by rw [noStarT_each hs]; rfl)) fun v s H Q q => ?_
  obtain ⟨mu, M, r, mr, sr, ds, dv, sat⟩ := q
  cases ds with
  | nil => exact sat.elim
  | cons d rest =>
    simp only [DRels] at dv
    obtain ⟨v1, vr, rfl, d1, d2⟩ := dv
    refine ⟨v1, vr, rfl, mu, M, r, mr, sr, d, d1, sat.bind.imp fun r1 M1 W1 l1 m1 s1 s' sr' e1 => ?_⟩
    exact ⟨W1.mu, M1, r1, m1, sr', rest, DRels.le l1 rest vr d2, s1.imp fun r2 M2 W2 l2 m2 q2 s2 sr2 e2 => q2 s2 sr2 (e2.trans e1)⟩
theorem ok_gctup (hq : C.calm = true) {vs : List Nat} {es : List Expr} {k pos} {gs : MGs} {m : Nat} (hs : es.all noStarT = true) (hm : es.length = m) (h : OkGsc T C vs es gs) : OkGc T C vs (.Tuple es k pos) (gTp m gs) := by
  intro n X wx q
  obtain ⟨a1, a2⟩ := noStarsT (env := X.env) hs
  refine PG.of (PG.or (pg_tup (q.calm.trans hq) (h n X wx q) (a1.trans hm) a2) (pg_unl (q.calm.trans hq) (h n X wx q) (a1.trans hm) a2)) fun v s H Q w => ?_
  obtain ⟨mu, M, r, mr, sr, d, dv, sat⟩ := w
  unfold gTp at sat
  split at sat
  · rename_i l e
    obtain ⟨hl, sat⟩ := sat_ite sat
    obtain ⟨a, xs, rfl, hq, dr⟩ := seqD_at mr e dv
    rcases hq with hq | hq
    · exact .inr ⟨a, xs, rfl, hq, by rw [← dr.length]; exact hl, mu, M, r, mr, sr, l, dr, sat⟩
    · exact .inl ⟨a, xs, rfl, hq, by rw [← dr.length]; exact hl, mu, M, r, mr, sr, l, dr, sat⟩
  · exact sat.elim
def OkTs (T : Tb) (C : CC) (es : List Expr) (m : MT) : Prop := ∀ n X wx, CxOk T n C X wx → PTs X es (rdT (kx X wx) (callF T n) m)
theorem PTs.of {X : Cx} {e : List Expr} {t t' : TT} (h : PTs X e t) (f : ∀ s H Q, t' s H Q → t s H Q) : PTs X e t' := ⟨fun pins s σ H Q I q => h.run pins s σ H Q I (f σ H Q q)⟩
def mYes : MT := fun _ _ M => .ok true M
theorem ok_tsnil : OkTs T C [] mYes := by
  intro n X wx h
  refine PTs.of pts_nil fun s H Q q => ?_
  obtain ⟨mu, M, r, mr, sr, sat⟩ := q
  exact sat.ok mr
theorem ok_tsone {e : Expr} {m : MT} (h : OkT T C e m) : OkTs T C [e] m := fun n X wx q => pts_one (h n X wx q)
/-- the block -/
def CC.blk (C : CC) (scope : Scope) : CC := { C with sc := relS scope C.sc, fn := fun x => scope.names.lookup x == some .cell, top := false }
theorem kb_blk {n : Nat} {X : Cx} {wx : Ex → L2.St → Wd → Prop} (h : CxOk T n C X wx) (hq : C.calm = true) (s : Shared) (H : Hp) (scope : Scope) (env : Env) (fp : List Addr) : kb (X.blk s H scope env fp) = kb X := by
  have h1 : hxOf X = none := if_pos (h.calm.trans hq)
  have h2 : hxOf (X.blk s H scope env fp) = none := if_pos (h.calm.trans hq)
  unfold kb
  rw [h1, h2]
theorem kx_blk {n : Nat} {X : Cx} {wx : Ex → L2.St → Wd → Prop} (h : CxOk T n C X wx) (hq : C.calm = true) (s : Shared) (H : Hp) (scope : Scope) (env : Env) (fp : List Addr) : kx (X.blk s H scope env fp) (fun _ _ _ => False) = (kb X).no := by
  show (kb (X.blk s H scope env fp)).no = _
  rw [kb_blk h hq]
theorem CxOk.blk {n : Nat} {X : Cx} {wx : Ex → L2.St → Wd → Prop} (h : CxOk T n C X wx) (hq : C.calm = true) {scope : Scope} (hk : scope.kind = .function) (s : Shared) (H : Hp) (Ca : Addr) (cl : List (Str × Addr)) (fp : List Addr) : CxOk T n (C.blk scope) (X.blk s H scope (compEnvC scope cl Ca X.env) fp) (fun _ _ _ => False) where
  sc := by
    show (compEnvC scope cl Ca X.env).scope = relS scope C.sc
    rw [← h.sc]; rfl
  N := h.N
  nd := h.nd
  fn := rfl
  kind := hk
  calm := h.calm
  un := h.un
  room := h.room
  stk := fun z => by cases z
  pas := PassesOwn.never
  tk := Takes.imp takes0 fun _ _ _ _ q => by
    obtain ⟨_, _, _, z⟩ := q
    exact z
  con := by rw [kb_blk h hq]; exact h.con
  blt := h.blt
  exs := h.exs
  exm := h.exm
  fns := h.fns
def lcG (gd : Gd) (g : MG) (mt : MT) (me : ME) (F : FT) (r : EV) : List D → Mem → Res (List D)
  | [], M => if Gd.ok gd M = true then .ok [] M else .bad
  | d :: ds, M => if Gd.ok gd M = true then (g F d r M).bind fun r1 M1 => (mt F r1 M1).bind fun k M2 =>
    if k then (me F r1 M2).bind fun y M3 => (lcG gd g mt me F r ds M3).bind fun ys M4 => .ok (y :: ys) M4 else lcG gd g mt me F r ds M2 else .bad
def mLc (mi : MI) (g : MG) (mt : MT) (me : ME) (vs : List Nat) : ME := fun F r M => (mi F r M).bind fun p M1 => if p.1.length ≤ LIM then (lcG p.2 g mt me F (wipeE r vs) p.1 M1).noX.bind fun ys M2 => .ok (.lst ys) M2 else .bad
theorem Sat.eq {A : Type} {K : Kx} {W : Wd} {r r' : Res A} {P : A → Mem → Wd → Prop} (h : Sat K W r P) (e : r = r') : Sat K W r' P := e ▸ h
theorem bind_assoc {A B C : Type} (r : Res A) (f : A → Mem → Res B) (g : B → Mem → Res C) : (r.bind f).bind g = r.bind fun a M => (f a M).bind g := by
  cases r <;> rfl
/-- a list that is being made becomes one that stands -/
theorem tLc_of {K : Kx} {F : FT} {mi : MI} {g : MG} {mt : MT} {me : ME} {vs : List Nat} {s : L2.St} {H : Hp} {Q : VK} (q : rdE K F (mLc mi g mt me vs) s H Q) :
    tLc (rdI K F mi) (rdGc K.b.no F vs g) (rdT K.b.no F mt) (rdE K.b.no F me) vs s H Q := by
  obtain ⟨mu, M, r, mr, sr, sat⟩ := q
  refine ⟨mu, M, r, mr, sr, sat.bind.imp fun p M1 W1 l1 m1 s1 J wk Dl hD => ?_⟩
  obtain ⟨ds, gd⟩ := p
  obtain ⟨hlim, s1⟩ := sat_ite s1
  have hlim : ds.length ≤ LIM := hlim
  have fz := m1.fresh hD
  have sr1 : SRel K W1 s r := sr.le l1
  -- the world with the list that is made
  have inv : ∃ Pv : Nat → Hp → Prop, Pv 0 (upd W1.H Dl (.lst [])) ∧ (∀ i H2, i ≤ ds.length → Pv i H2 →
      (i = ds.length → J.stop i H2 ∧ Q (.ref Dl) H2) ∧ (i < ds.length → J.go i H2 ∧ ∀ x H', J.yld i H2 x H' → rdGc K.b.no F vs g x (wipe s vs) H' fun s2 H3 => wipe s2 vs = wipe s vs ∧ rdT K.b.no F mt s2 H3 fun b H4 =>
        if b = true then rdE K.b.no F me s2 H4 fun y H5 => ∃ acc, H5 Dl = some (.lst acc) ∧ acc.length < sizeLine ∧ Pv (i + 1) (upd H5 Dl (.lst (acc ++ [y]))) else Pv (i + 1) H4)) := by
    refine ⟨fun i H2 => ∃ mu2 M2 acc xs, MRel K ⟨H2, mu2⟩ M2 ∧ Lk W1 ⟨H2, mu2⟩ ∧ mu2.p = Dl :: W1.mu.p ∧ (∀ a, a ∈ W1.mu.p → H2 a = W1.H a) ∧ H2 Dl = some (.lst xs) ∧ DRels K ⟨H2, mu2⟩ acc xs ∧ acc.length ≤ i ∧
        Sat (K.at s) W1 ((lcG gd g mt me F (wipeE r vs) (ds.drop i) M2).noX.bind fun ys M3 => .ok (.lst (acc ++ ys)) M3) (PV K Q), ?_, ?_⟩
    · have ne : ∀ {a : Addr} {u : HO}, W1.H a = some u → upd W1.H Dl (.lst []) a = some u := fun {a u} h => by
        rw [upd_ne (ne_of_none h hD)]; exact h
      have lk : Lk W1 ⟨upd W1.H Dl (.lst []), ⟨W1.mu.l, Dl :: W1.mu.p, W1.mu.k⟩⟩ := ⟨⟨[], by simp⟩, fun a o h nf => ⟨ne h, nf.1, by
        show a ∉ Dl :: W1.mu.p
        simp only [List.mem_cons, not_or]
        exact ⟨ne_of_none h hD, nf.2⟩⟩⟩
      refine ⟨⟨W1.mu.l, Dl :: W1.mu.p, W1.mu.k⟩, M1, [], [], m1.lk lk rfl rfl (fun a ha => ?_) (fun a ha => ?_), lk, rfl, fun a ha => ?_, upd_same, rfl, Nat.zero_le _, s1⟩
      · obtain ⟨u, e⟩ := m1.there ha
        rw [e]; exact ne e
      · rcases List.mem_cons.mp ha with rfl | ha
        · exact ⟨⟨_, upd_same⟩, fun z => by obtain ⟨u, e⟩ := m1.there z; rw [hD] at e; cases e⟩
        · obtain ⟨⟨u, e⟩, q⟩ := m1.pv a ha
          exact ⟨⟨u, ne e⟩, q⟩
      · obtain ⟨⟨u, e⟩, q⟩ := m1.pv a ha
        rw [e]; exact ne e
    · rintro i H2 hle ⟨mu2, M2, acc, xs, mr2, lk2, ep, hpv, hDl, dacc, hacc, sat2⟩
      constructor
      · rintro rfl
        rw [List.drop_length] at sat2
        simp only [lcG] at sat2
        by_cases hgd : Gd.ok gd M2 = true
        case neg => rw [if_neg hgd] at sat2; exact sat2.elim
        rw [if_pos hgd] at sat2
        refine ⟨wk.stop _ _ lk2 mr2 hgd, ?_⟩
        simp only [Res.noX_ok, Res.bind_ok, List.append_nil] at sat2
        -- leave: the list stands
        have nDl : Dl ∉ mu2.l := (mr2.pv Dl (by rw [ep]; exact List.mem_cons_self)).2
        have lk3 : Lk ⟨H2, mu2⟩ ⟨H2, ⟨mu2.l, W1.mu.p, mu2.k⟩⟩ := ⟨⟨[], by simp⟩, fun a o h nf => ⟨h, nf.1, fun z => nf.2 (by show a ∈ mu2.p; rw [ep]; exact List.mem_cons_of_mem _ z)⟩⟩
        have mr3 : MRel K ⟨H2, ⟨mu2.l, W1.mu.p, mu2.k⟩⟩ M2 := mr2.lk lk3 rfl rfl (fun _ _ => rfl) fun a ha => mr2.pv a (by rw [ep]; exact List.mem_cons_of_mem _ ha)
        have le3 : Le W1 ⟨H2, ⟨mu2.l, W1.mu.p, mu2.k⟩⟩ := ⟨lk2.trans lk3, rfl, fun a ha => hpv a ha⟩
        refine sat2 _ le3 mr3 (.ref Dl) ?_
        simp only [DRel]
        exact ⟨Dl, xs, rfl, .inl ⟨.inl hDl, .inl nDl, fz.2⟩, DRels.lk lk3 acc xs dacc⟩
      · intro hlt
        rw [drop_cons hlt] at sat2
        simp only [lcG] at sat2
        by_cases hgd : Gd.ok gd M2 = true
        case neg => rw [if_neg hgd] at sat2; exact sat2.elim
        rw [if_pos hgd] at sat2
        refine ⟨wk.go i _ _ lk2 mr2 hgd hlt, fun x H' y => ?_⟩
        obtain ⟨W3, rfl, le3, mr3, dx⟩ := wk.yld i ds[i] _ M2 x H' (List.getElem?_eq_getElem hlt) lk2 mr2 hgd y
        -- facts that go on
        have base : ∀ W, Le W3 W → Lk W1 W ∧ W.mu.p = Dl :: W1.mu.p ∧ (∀ a, a ∈ W1.mu.p → W.H a = W1.H a) ∧ W.H Dl = some (.lst xs) ∧ DRels K W acc xs := fun W l => by
          have l' := le3.trans l
          have e : W.mu.p = Dl :: W1.mu.p := l'.pv.trans ep
          refine ⟨lk2.trans l'.toLk, e, fun a ha => ?_, ?_, DRels.le l' acc xs dacc⟩
          · rw [l'.pvk a (by show a ∈ mu2.p; rw [ep]; exact List.mem_cons_of_mem _ ha)]; exact hpv a ha
          · rw [l'.pvk Dl (by show Dl ∈ mu2.p; rw [ep]; exact List.mem_cons_self)]; exact hDl
        have srw : SRel K W3 (wipe s vs) (wipeE r vs) := (sr1.wipe vs).lk (lk2.trans le3.toLk)
        refine ⟨W3.mu, M2, wipeE r vs, mr3, srw, ds[i], dx, ?_⟩
        -- the meaning from W1 on, walked from W3 on
        cases e1 : g F ds[i] (wipeE r vs) M2 with
        | bad => rw [e1] at sat2; exact sat2.elim
        | exc _ _ => rw [e1] at sat2; exact sat2.elim
        | ok r4 M4 =>
          rw [e1] at sat2
          simp only [Res.bind_ok] at sat2
          intro W4 l4 m4 s4 sr4 es4
          refine ⟨es4.trans (wipe_wipe s vs), W4.mu, M4, r4, m4, sr4, ?_⟩
          cases e2 : mt F r4 M4 with
          | bad => rw [e2] at sat2; exact sat2.elim
          | exc _ _ => rw [e2] at sat2; exact sat2.elim
          | ok k M5 =>
            rw [e2] at sat2
            simp only [Res.bind_ok] at sat2
            show Sat (K.b.no.at s4) W4 (mt F r4 M4) _
            rw [e2]
            intro W5 l5 m5
            cases k with
            | false =>
              refine iteF ?_
              simp only [Bool.false_eq_true, if_false] at sat2
              obtain ⟨b1, b2, b3, b4, b5⟩ := base W5 (l4.trans l5)
              exact ⟨W5.mu, M5, acc, xs, m5, b1, b2, b3, b4, b5, by omega, sat2⟩
            | true =>
              refine iteT ⟨W5.mu, M5, r4, m5, sr4.le l5, ?_⟩
              simp only [if_true] at sat2
              cases e3 : me F r4 M5 with
              | bad => rw [e3] at sat2; exact sat2.elim
              | exc _ _ => rw [e3] at sat2; exact sat2.elim
              | ok yd M6 =>
                rw [e3] at sat2
                simp only [Res.bind_ok] at sat2
                show Sat (K.b.no.at s4) W5 (me F r4 M5) _
                rw [e3]
                intro W6 l6 m6 yv dy
                obtain ⟨b1, b2, b3, b4, b5⟩ := base W6 ((l4.trans l5).trans l6)
                refine ⟨xs, b4, by rw [← b5.length, ← lim_eq]; omega, ?_⟩
                have hDp : Dl ∈ W6.mu.p := by rw [b2]; exact List.mem_cons_self
                have nDl : Dl ∉ W6.mu.l := (m6.pv Dl hDp).2
                have lk7 : Lk W6 ⟨upd W6.H Dl (.lst (xs ++ [yv])), W6.mu⟩ := ⟨⟨[], by simp⟩, fun a o h nf => ⟨by
                  show upd W6.H Dl _ a = _
                  rw [upd_ne (by rintro rfl; exact nf.2 hDp)]; exact h, nf⟩⟩
                refine ⟨W6.mu, M6, acc ++ [yd], xs ++ [yv], m6.lk lk7 rfl rfl (fun a ha => upd_ne (by rintro rfl; exact nDl ha)) (fun a ha => ?_), b1.trans lk7, b2, fun a ha => ?_, upd_same,
                  DRels.lk lk7 _ _ (DRels.append b5 (show DRels K W6 [yd] [yv] from ⟨yv, [], rfl, dy, rfl⟩)), by simp; omega, ?_⟩
                · by_cases ea : a = Dl
                  · subst ea
                    exact ⟨⟨_, upd_same⟩, nDl⟩
                  · obtain ⟨⟨u, e⟩, q⟩ := m6.pv a ha
                    exact ⟨⟨u, by show upd W6.H Dl _ a = _; rw [upd_ne ea]; exact e⟩, q⟩
                · have ea : a ≠ Dl := by rintro rfl; exact fz.2 ha
                  rw [upd_ne ea]; exact b3 a ha
                · refine Sat.eq sat2 ?_
                  cases lcG gd g mt me F (wipeE r vs) (ds.drop (i + 1)) M6 with
                  | ok ys M7 => simp [Res.bind, Res.noX]
                  | exc _ _ => rfl
                  | bad => rfl
  obtain ⟨Pv, p0, step⟩ := inv
  refine ⟨fun i m H2 => m = ds.length - i ∧ i ≤ ds.length ∧ Pv i H2, ⟨ds.length, by simp, Nat.zero_le _, p0⟩, ?_⟩
  rintro i m H2 ⟨rfl, hle, p⟩
  obtain ⟨h1, h2⟩ := step i H2 hle p
  by_cases hlt : i < ds.length
  · obtain ⟨go, st⟩ := h2 hlt
    exact .inr ⟨go, Pv (i + 1), fun H' p' => ⟨ds.length - (i + 1), by omega, rfl, hlt, p'⟩, st⟩
  · exact .inl (h1 (by omega))
theorem ok_lc (hq : C.calm = true) {elt tg iter : Expr} {ifs : List Expr} {scope : Scope} {own : List (Str × Nat)} {pos : Pos} {mi : MI} {g : MG} {mt : MT} {me : ME} {vs : List Nat} (hv : own.map (·.2) = vs) (hs : noSet iter = true) (ok : blkC C.N C.sc scope own = true) (hi : OkI T C tg iter mi)
    (hg : OkGc T (C.blk scope) vs tg g) (ht : OkTs T (C.blk scope) ifs mt) (he : OkE T (C.blk scope) elt me) : OkE T C (.ListComp elt [⟨tg, iter, ifs, 0⟩] scope pos) (mLc mi g mt me vs) := by
  intro n X wx h
  have bo : BlkOk X.N X.env.scope scope own := by rw [h.N, h.sc]; exact blkOk_by ok
  subst hv
  exact PE.of (pe_lc (g := rdGc (kb X).no (callF T n) (own.map (·.2)) g) (tt := rdT (kb X).no (callF T n) mt) (te := rdE (kb X).no (callF T n) me) (h.calm.trans hq) h.nd (hi n X wx h) bo (fun s H Ca cl fp => by rw [← kx_blk h hq s H scope (compEnvC scope cl Ca X.env) fp]; exact hg n _ _ (h.blk hq bo.kind s H Ca cl fp)) (fun s H Ca cl fp => by rw [← kx_blk h hq s H scope (compEnvC scope cl Ca X.env) fp]; exact ht n _ _ (h.blk hq bo.kind s H Ca cl fp)) (fun s H Ca cl fp => by rw [← kx_blk h hq s H scope (compEnvC scope cl Ca X.env) fp]; exact he n _ _ (h.blk hq bo.kind s H Ca cl fp)) (noSet_it hs)) fun s H Q q => tLc_of q
/-- y = [..] on one line -/
theorem ok_setlc (hq : C.calm = true) {i : Nat} {y : Str} {py spos : Pos} {elt tg iter : Expr} {ifs : List Expr} {scope : Scope} {own : List (Str × Nat)} {pos : Pos} {mi : MI} {g : MG} {mt : MT} {me : ME} {vs : List Nat} (hv : own.map (·.2) = vs) (hs : noSet iter = true) (ok : blkC C.N C.sc scope own = true)
    (hy : C.N[i]? = some y) (hyl : C.sc.names.lookup y = some .local) (hline : (py.line == pos.line) = true) (hany : (scope.names.any fun (n, k) => n == y && (k == .local || k == .cell)) = false) (hi : OkI T C tg iter mi)
    (hg : OkGc T (C.blk scope) vs tg g) (ht : OkTs T (C.blk scope) ifs mt) (he : OkE T (C.blk scope) elt me) : OkS T C (.Assign [.Name y py] (.ListComp elt [⟨tg, iter, ifs, 0⟩] scope pos) spos) (mAsg (mLc mi g mt me vs) (gN i)) := by
  intro n X wx h
  have bo : BlkOk X.N X.env.scope scope own := by rw [h.N, h.sc]; exact blkOk_by ok
  subst hv
  have hk : X.env.scope.kind = .function := by rw [h.sc]; exact h.kind
  refine PS.of (ps_setLc (g := rdGc (kb X).no (callF T n) (own.map (·.2)) g) (tt := rdT (kb X).no (callF T n) mt) (te := rdE (kb X).no (callF T n) me) (h.calm.trans hq) h.nd (by rw [h.N]; exact hy) (by rw [h.sc]; exact hyl) (sw_true hk (by rw [h.sc]; exact hyl) hline hany) (hi n X wx h) bo (fun s H Ca cl fp => by rw [← kx_blk h hq s H scope (compEnvC scope cl Ca X.env) fp]; exact hg n _ _ (h.blk hq bo.kind s H Ca cl fp)) (fun s H Ca cl fp => by rw [← kx_blk h hq s H scope (compEnvC scope cl Ca X.env) fp]; exact ht n _ _ (h.blk hq bo.kind s H Ca cl fp)) (fun s H Ca cl fp => by rw [← kx_blk h hq s H scope (compEnvC scope cl Ca X.env) fp]; exact he n _ _ (h.blk hq bo.kind s H Ca cl fp)) (noSet_it hs)) fun Dn s H q => ?_
  refine tLc_of ?_
  obtain ⟨mu, M, r, mr, sr, sat⟩ := asg_of q
  refine ⟨mu, M, r, mr, sr, sat.imp fun d M1 W1 l1 m1 s1 v dv => ?_⟩
  obtain ⟨mu2, M2, r2, mr2, sr2, d2, dv2, sat2⟩ := s1 v dv
  exact sat2.ok mr2 _ (sr2.set dv2 i)
end RI

namespace RI
open PySem PySem.Spec PyProof.Rows L2
variable {T : Tb} {C : CC}

/-! ### things being made -/
abbrev Wd.priv (W : Wd) (p : Addr) (o : HO) : Wd := ⟨upd W.H p o, ⟨W.mu.l, p :: W.mu.p, W.mu.k⟩⟩
theorem priv_in {K : Kb} {W : Wd} {M : Mem} (m : MRel K W M) {p : Addr} (hp : W.H p = none) (o : HO) : Lk W (W.priv p o) ∧ MRel K (W.priv p o) M := by
  have fz := m.fresh hp
  have ne : ∀ {a : Addr} {u : HO}, W.H a = some u → upd W.H p o a = some u := fun {a u} h => by
    rw [upd_ne (ne_of_none h hp)]; exact h
  have lk : Lk W (W.priv p o) := ⟨⟨[], by simp⟩, fun a u h nf => ⟨ne h, nf.1, by
    show a ∉ p :: W.mu.p
    simp only [List.mem_cons, not_or]
    exact ⟨ne_of_none h hp, nf.2⟩⟩⟩
  refine ⟨lk, m.lk lk rfl rfl (fun a ha => ?_) (fun a ha => ?_)⟩
  · obtain ⟨u, e⟩ := m.there ha
    rw [e]; exact ne e
  · rcases List.mem_cons.mp ha with rfl | ha
    · exact ⟨⟨_, upd_same⟩, fun z => by obtain ⟨u, e⟩ := m.there z; rw [hp] at e; cases e⟩
    · obtain ⟨⟨u, e⟩, q⟩ := m.pv a ha
      exact ⟨⟨u, ne e⟩, q⟩
theorem priv_out {K : Kb} {W W3 : Wd} {M M3 : Mem} (m : MRel K W M) {p : Addr} (hp : W.H p = none) {o : HO} (l : Le (W.priv p o) W3) (m3 : MRel K W3 M3) (o' : HO) (mo : MO) (new : ∀ W', Lk W3 W' → W'.H p = some o' → p ∉ W'.mu.k → ORel K W' M3.length p mo) :
    Le W ⟨upd W3.H p o', ⟨W3.mu.l ++ [p], W.mu.p, W3.mu.k⟩⟩ ∧ MRel K ⟨upd W3.H p o', ⟨W3.mu.l ++ [p], W.mu.p, W3.mu.k⟩⟩ (M3 ++ [mo]) := by
  have ep : W3.mu.p = p :: W.mu.p := l.pv
  have npl : p ∉ W3.mu.l := (m3.pv p (by rw [ep]; exact List.mem_cons_self)).2
  have npp : p ∉ W.mu.p := (m.fresh hp).2
  have npk : p ∉ W3.mu.k := fun z => (m3.kk p z).2 (by rw [ep]; exact List.mem_cons_self)
  have lk : Lk W3 ⟨upd W3.H p o', ⟨W3.mu.l ++ [p], W.mu.p, W3.mu.k⟩⟩ := ⟨⟨[p], rfl⟩, fun a u h nf => by
    have hne : a ≠ p := by rintro rfl; exact nf.2 (by rw [ep]; exact List.mem_cons_self)
    refine ⟨by show upd W3.H p o' a = _; rw [upd_ne hne]; exact h, ?_, ?_⟩
    · refine nf.1.imp_left fun n1 => ?_
      show a ∉ W3.mu.l ++ [p]
      simp only [List.mem_append, List.mem_singleton, not_or]
      exact ⟨n1, hne⟩
    · show a ∉ W.mu.p
      intro z
      exact nf.2 (by rw [ep]; exact List.mem_cons_of_mem _ z)⟩
  refine ⟨⟨((priv_in m hp o).1.trans l.toLk).trans lk, rfl, fun a ha => ?_⟩, by simp [m3.len], ?_, fun i a u h1 h2 => ?_, fun a ha => ?_, fun a ha => ?_⟩
  · have hne : a ≠ p := by rintro rfl; exact npp ha
    show upd W3.H p o' a = W.H a
    rw [upd_ne hne, l.pvk a (List.mem_cons_of_mem _ ha)]
    show upd W.H p o a = W.H a
    rw [upd_ne hne]
  · show (W3.mu.l ++ [p]).Nodup
    rw [List.nodup_append]
    refine ⟨m3.nd, by simp, ?_⟩
    intro x hx y hy e
    simp only [List.mem_singleton] at hy
    subst hy; subst e; exact npl hx
  · have h1 : (W3.mu.l ++ [p])[i]? = some a := h1
    by_cases hi : i < W3.mu.l.length
    · rw [List.getElem?_append_left hi] at h1
      rw [List.getElem?_append_left (by rw [← m3.len]; exact hi)] at h2
      have hm : a ∈ W3.mu.l := List.mem_of_getElem? h1
      refine (m3.obj i a u h1 h2).lk lk ?_ Iff.rfl
      show upd W3.H p o' a = _
      rw [upd_ne (by rintro rfl; exact npl hm)]
    · have e : i = W3.mu.l.length := by
        have : i < (W3.mu.l ++ [p]).length := by
          by_cases q : i < (W3.mu.l ++ [p]).length
          · exact q
          · rw [List.getElem?_eq_none (by omega)] at h1; cases h1
        simp at this
        omega
      subst e
      rw [List.getElem?_append_right (Nat.le_refl _)] at h1
      rw [m3.len, List.getElem?_append_right (Nat.le_refl _)] at h2
      simp at h1 h2
      subst h1; subst h2
      rw [m3.len]
      exact new _ lk upd_same npk
  · obtain ⟨⟨u, e⟩, q⟩ := m3.pv a (by rw [ep]; exact List.mem_cons_of_mem _ ha)
    have hne : a ≠ p := by rintro rfl; exact npp ha
    refine ⟨⟨u, by show upd W3.H p o' a = _; rw [upd_ne hne]; exact e⟩, ?_⟩
    show a ∉ W3.mu.l ++ [p]
    simp only [List.mem_append, List.mem_singleton, not_or]
    exact ⟨q, hne⟩
  · obtain ⟨⟨u, e⟩, q⟩ := m3.kk a ha
    have hne : a ≠ p := by rintro rfl; exact npk ha
    exact ⟨⟨u, by show upd W3.H p o' a = _; rw [upd_ne hne]; exact e⟩, fun z => q (by rw [ep]; exact List.mem_cons_of_mem _ z)⟩

/-! ### {} and {k: v}, keys tuples -/
def mDct0 : ME := fun _ _ M => .ok (.obj M.length) (M ++ [.dct false []])
def tDct0 (P : Program) (w : World) : TE := fun _ H Q => ∀ p, H p = none → (p == sysModules) = false → Q (.ref p) (upd H p (DctO P w p []))
theorem pe_dct0 {X : Cx} {pos : Pos} : PE X (.Dict [] [] pos) (tDct0 X.prog X.w) := ⟨fun pins s σ H Q I h =>
  wpAny_Dict_empty ⟨.ref s.heap.objs.size, _, I.laid (a := s.heap.objs.size) (o := DctO X.prog X.w s.heap.objs.size []) (t' := s.toks) (fun _ _ q => Heap.get?_push_of_some _ q) (Nat.le_refl _) (dct_new (Heap.DictOfH.new s.heap)), rfl,
    h _ (I.hok.fresh (Nat.le_refl _)) (beq_eq_false_iff_ne.mpr (Ne.symm (Nat.ne_of_lt I.big)))⟩⟩
theorem ok_dct0 {pos : Pos} : OkE T C (.Dict [] [] pos) mDct0 := by
  intro n X wx h
  refine PE.of pe_dct0 fun s H Q q => ?_
  obtain ⟨mu, M, r, mr, sr, sat⟩ := q
  intro p hp hs
  obtain ⟨l1, m1⟩ := mr.bornO hp (DctO X.prog X.w p []) (.dct false []) fun W' lk e ek => ⟨[], ⟨ek, e⟩, List.nodup_nil, Nat.zero_le _, hs, .nil⟩
  refine sat _ l1 m1 (.ref p) ?_
  simp only [DRel]
  refine ⟨p, rfl, ?_⟩
  show (mu.l ++ [p])[M.length]? = some p
  rw [← mr.len, List.getElem?_append_right (Nat.le_refl _)]
  simp
theorem wpAny_Dict_rawH {prog : Program} {w : World} {A : Around} {E : Value → Shared → Prop} {s : Shared} {env : Env} {keys : List (Option Expr)} {values : List Expr} {pos : Pos} {pairs : List (Sem Value × Sem Value)} {Q : Value → Shared → Prop} (hu : (nestedKind prog w).room A)
    (hshape : (evalEachOpt keys env).zip ((evalEach values env).map fun v => do let x ← v; standAt pos; pure x) = pairs.map fun p => (some p.1, p.2)) (h0 : pairs ≠ []) (hlen : pairs.length ≤ 15)
    (h : wpAny (model prog w) A (evalPairs pairs) (fun vs s₁ => ∃ ps, CarriesH (nestedKind prog w) s₁.heap vs ps ∧ s₁.heap.DictOfH (nestedKind prog w) s.heap.objs.size [] ∧
      ∀ h' tk, h'.DictOfH (nestedKind prog w) s.heap.objs.size (storedAllH [] ps) → Heap.SameBut s.heap.objs.size s₁.heap h' → Q (.ref s.heap.objs.size) { s₁ with heap := h', toks := tk }) E
      { s with heap := s.heap.push { cls := .type "dict", data := .dict #[] } }) :
    wpAny (model prog w) A (eval (.Dict keys values pos) env) Q E s := by
  rw [arm_eval_Dict, hshape, dictDisplay_pairs pairs h0 (by omega)]
  exact wpAny_bind (wpAny_standAt (wpAny_bind (wpAny_subDictH (knd := nestedKind prog w) (Q := fun d s' => wpAny (model prog w) A (pure (Value.ref d)) Q E s') hu hlen
    (wpAny_mono h (fun vs s₁ h₁ => by obtain ⟨ps, hc, hm, hq⟩ := h₁; exact ⟨ps, hc, hm, fun h' tk a b => wpAny_pure (hq h' tk a b)⟩) fun _ _ e => e))))
/-- {k: v}: the new dict stands empty while the pair is made -/
def qDct1 (X : Cx) (p : Addr) (σ : L2.St) (Q : VK) : List (V × V) → Hp → Prop := fun ps H2 => ∃ x y k ka, ps = [(x, y)] ∧ x = .ref ka ∧ H2 p = some (DctO X.prog X.w p []) ∧ (∀ (pins : List (Addr × Obj)) (s : Shared), Inv X pins σ H2 s → (nestedKind X.prog X.w).is s.heap k ka) ∧ ∀ u, RelV y u → Q (.ref p) (upd H2 p (DctO X.prog X.w p [(k, ka, u)]))
def tDct1 (X : Cx) (tk tv : TE) : TE := fun σ H Q => ∀ p, H p = none → (p == sysModules) = false → tk σ (upd H p (DctO X.prog X.w p [])) fun x H1 => tv σ H1 fun y H2 => qDct1 X p σ Q [(x, y)] H2
theorem pe_dct1 {X : Cx} {pos : Pos} {k v : Expr} {tk tv : TE} (hu : X.A.units + 65 < cLine) (hk : PE X k tk) (hv : PE X v tv) : PE X (.Dict [some k] [v] pos) (tDct1 X tk tv) := by
  refine ⟨fun pins s σ H Q I q => ?_⟩
  have hn := I.hok.fresh (Nat.le_refl s.heap.objs.size)
  have hs : (s.heap.objs.size == sysModules) = false := beq_eq_false_iff_ne.mpr (Ne.symm (Nat.ne_of_lt I.big))
  have I1 := I.laid (a := s.heap.objs.size) (o := DctO X.prog X.w s.heap.objs.size []) (h' := s.heap.push { cls := .type "dict", data := .dict #[] }) (t' := s.toks) (fun _ _ q => Heap.get?_push_of_some _ q) (Nat.le_refl _) (dct_new (Heap.DictOfH.new s.heap))
  refine wpAny_Dict_rawH (pairs := pairTrees [some k] [v] X.env pos) (by show X.A.units + 8 < cLine; omega) (by rfl) (by intro z; cases z) (by show 1 ≤ 15; omega) ?_
  refine thn ((pps_cons hk hv pps_nil).run pins _ σ _ (qDct1 X s.heap.objs.size σ Q) I1 (q _ hn hs)) fun ws s2 ⟨ps, H2, I2, rel, x, y, kk, ka, ep, ex, e, hki, q2⟩ => ?_
  subst ep ex
  · obtain ⟨b, rfl, r⟩ : ∃ b, ws = [b] ∧ (RelV (.ref ka) b.1 ∧ RelV y b.2) := by
      cases rel with
      | cons r rr => cases rr; exact ⟨_, rfl, r⟩
    obtain ⟨u1, u2⟩ := b
    obtain ⟨r1, r2⟩ := r
    cases (show u1 = _ from r1)
    have hd : s2.heap.DictOfH (nestedKind X.prog X.w) s.heap.objs.size [] := by
      obtain ⟨o, es, ep, g1, g2, g3, g4⟩ := (I2.hok _ _ e).1
      exact ⟨o, es, ep, g1, g2, g3, g4, (fun x hx => by cases hx), List.nodup_nil⟩
    exact ⟨[(kk, ka, u2)], ⟨rfl, rfl, hki pins s2 I2, trivial⟩, hd, fun h' tk' d' sb => ⟨.ref s.heap.objs.size, _, d_write I2 (by rw [e]; exact True.intro) sb (let ⟨q, _, _, hq, _⟩ := d'; ⟨q, hq⟩) (dct_new d'), rfl, q2 u2 r2⟩⟩
def mDct1 (mk mv : ME) : ME := fun F r M => (mk F r M).noX.bind fun k M1 => (mv F r M1).noX.bind fun v M2 => if (D.isKey k && D.bel M2.length v) = true then .ok (.obj M2.length) (M2 ++ [.dct false [(k, v)]]) else .bad
theorem ok_dct1 {k v : Expr} {pos : Pos} {mk mv : ME} (hk : OkE T C k mk) (hv : OkE T C v mv) : OkE T C (.Dict [some k] [v] pos) (mDct1 mk mv) := by
  intro n X wx h
  refine PE.of (pe_dct1 (by have := h.un; omega) (hk n X wx h) (hv n X wx h)) fun s H Q q => ?_
  obtain ⟨mu, M, r, mr, sr, sat⟩ := q
  intro p hp hs
  obtain ⟨lk1, m1⟩ := priv_in mr hp (DctO X.prog X.w p [])
  have npv : H p = none := hp
  unfold mDct1 at sat
  cases e1 : mk (callF T n) r M with
  | bad => rw [e1] at sat; exact sat.elim
  | exc _ _ => rw [e1] at sat; exact sat.elim
  | ok kd M1 =>
    rw [e1] at sat
    simp only [Res.noX_ok, Res.bind_ok] at sat
    refine ⟨_, M, r, m1, sr.lk lk1, ?_⟩
    show Sat _ _ (mk (callF T n) r M) _
    rw [e1]
    intro W2 l2 m2 x dx
    cases e2 : mv (callF T n) r M1 with
    | bad => rw [e2] at sat; exact sat.elim
    | exc _ _ => rw [e2] at sat; exact sat.elim
    | ok vd M2 =>
      rw [e2] at sat
      simp only [Res.noX_ok, Res.bind_ok] at sat
      refine ⟨W2.mu, M1, r, m2, (sr.lk lk1).le l2, ?_⟩
      show Sat _ _ (mv (callF T n) r M1) _
      rw [e2]
      intro W3 l3 m3 y dy
      obtain ⟨hc, sat⟩ := sat_ite sat
      simp only [Bool.and_eq_true] at hc
      have l13 := l2.trans l3
      have dx3 := DRel.le l3 kd x dx
      have e3 : W3.H p = some (DctO X.prog X.w p []) := by rw [l13.pvk p List.mem_cons_self]; exact upd_same
      have hx : ∃ ka, x = .ref ka := by
        cases kd with
        | tup l => simp only [DRel] at dx; obtain ⟨a, xs, rfl, _⟩ := dx; exact ⟨a, rfl⟩
        | _ => simp [D.isKey] at hc
      obtain ⟨ka, rfl⟩ := hx
      refine ⟨_, y, D.toK kd, ka, rfl, rfl, e3, fun pins' s' I' => ?_, fun u ru => ?_⟩
      · obtain ⟨b, e1', e2', e3'⟩ := isKey_is (mu := W3.mu) I' hc.1 dx3 (u := .ref ka) rfl
        cases e1'
        exact e3'
      · obtain ⟨l4, m4⟩ := priv_out mr hp l13 m3 (DctO X.prog X.w p [(D.toK kd, ka, u)]) (.dct false [(kd, vd)]) fun W' lk e ek => ⟨_, ⟨ek, e⟩, (by simp), (by show 1 ≤ sizeLine; rw [sizeLine_eq]; omega), hs, .cons ⟨hc.1, rfl, DRel.lk lk _ _ dx3, ⟨y, DRel.lk lk _ _ dy, ru⟩, hc.2⟩ .nil⟩
        refine sat _ l4 m4 (.ref p) ?_
        simp only [DRel]
        refine ⟨p, rfl, ?_⟩
        show (W3.mu.l ++ [p])[M2.length]? = some p
        rw [← m3.len, List.getElem?_append_right (Nat.le_refl _)]
        simp
end RI

namespace RI
open PySem PySem.Spec PyProof.Rows L2
/-! ### data without the handled exception -/
mutual
def D.noE : D → Bool
  | .tup l => D.noEs l
  | .lst l => D.noEs l
  | .ins _ _ l => D.noEs l
  | .exn _ _ _ => false
  | _ => true
def D.noEs : List D → Bool
  | [] => true
  | d :: ds => D.noE d && D.noEs ds
end
mutual
theorem bel_noE (n : Nat) : ∀ d : D, D.bel n d = true → D.noE d = true
  | .non, _ => rfl
  | .bl _, _ => rfl
  | .int _, _ => rfl
  | .str _, _ => rfl
  | .obj _, _ => rfl
  | .tup l, h => by simp only [D.bel] at h; simp only [D.noE]; exact bels_noE n l h
  | .lst l, h => by simp only [D.bel] at h; simp only [D.noE]; exact bels_noE n l h
  | .exn _ _ _, h => by simp [D.bel] at h
  | .ins _ _ l, h => by simp only [D.bel] at h; simp only [D.noE]; exact bels_noE n l h
theorem bels_noE (n : Nat) : ∀ ds : List D, D.bels n ds = true → D.noEs ds = true
  | [], _ => rfl
  | d :: ds, h => by
    simp only [D.bels, Bool.and_eq_true] at h
    simp only [D.noEs, bel_noE n d h.1, bels_noE n ds h.2, Bool.and_self]
end
mutual
theorem keyly_noE : ∀ d : D, D.keyly d = true → D.noE d = true
  | .non, _ => rfl
  | .bl _, _ => rfl
  | .int _, _ => rfl
  | .str _, _ => rfl
  | .obj _, h => by simp [D.keyly] at h
  | .tup l, h => by simp only [D.keyly] at h; simp only [D.noE]; exact keylys_noE l h
  | .lst _, h => by simp [D.keyly] at h
  | .exn _ _ _, h => by simp [D.keyly] at h
  | .ins _ _ _, h => by simp [D.keyly] at h
theorem keylys_noE : ∀ ds : List D, D.keylys ds = true → D.noEs ds = true
  | [], _ => rfl
  | d :: ds, h => by
    simp only [D.keylys, Bool.and_eq_true] at h
    simp only [D.noEs, keyly_noE d h.1, keylys_noE ds h.2, Bool.and_self]
end
abbrev Kb.hxs (K : Kb) (h : Option (Addr × Value × Option Addr)) : Kb := ⟨K.K, K.P, K.w, K.mg, h⟩
mutual
theorem DRel.hxe {K : Kb} {W : Wd} (h : Option (Addr × Value × Option Addr)) : ∀ (d : D) (v : V), D.noE d = true → DRel K W d v → DRel (K.hxs h) W d v
  | .non, _, _, q => q
  | .bl _, _, _, q => q
  | .int _, _, _, q => q
  | .str _, _, _, q => q
  | .obj _, _, _, q => q
  | .tup l, v, b, q => by
    simp only [DRel, D.noE] at q b ⊢
    obtain ⟨a, xs, e, t, r⟩ := q
    exact ⟨a, xs, e, t, DRels.hxe h l xs b r⟩
  | .lst l, v, b, q => by
    simp only [DRel, D.noE] at q b ⊢
    obtain ⟨a, xs, e, t, r⟩ := q
    exact ⟨a, xs, e, t, DRels.hxe h l xs b r⟩
  | .exn _ _ _, _, b, _ => by simp [D.noE] at b
  | .ins c ns ds, v, b, q => by
    simp only [DRel, D.noE] at q b ⊢
    obtain ⟨a, C, dx, xs, e, hC, h1, f1, h2, f2, hl, r⟩ := q
    exact ⟨a, C, dx, xs, e, hC, h1, f1, h2, f2, hl, DRels.hxe h ds xs b r⟩
theorem DRels.hxe {K : Kb} {W : Wd} (h : Option (Addr × Value × Option Addr)) : ∀ (ds : List D) (vs : List V), D.noEs ds = true → DRels K W ds vs → DRels (K.hxs h) W ds vs
  | [], _, _, q => q
  | d :: ds, _, b, q => by
    simp only [DRels, D.noEs, Bool.and_eq_true] at q b ⊢
    obtain ⟨v, r, e, h1, h2⟩ := q
    exact ⟨v, r, e, DRel.hxe h d v b.1 h1, DRels.hxe h ds r b.2 h2⟩
end
mutual
theorem DRel.calm {K : Kb} {W : Wd} (hn : K.hx = none) : ∀ (d : D) (v : V), DRel K W d v → D.noE d = true
  | .non, _, _ => rfl
  | .bl _, _, _ => rfl
  | .int _, _, _ => rfl
  | .str _, _, _ => rfl
  | .obj _, _, _ => rfl
  | .tup l, v, q => by
    simp only [DRel] at q
    obtain ⟨a, xs, e, t, r⟩ := q
    simp only [D.noE]
    exact DRels.calm hn l xs r
  | .lst l, v, q => by
    simp only [DRel] at q
    obtain ⟨a, xs, e, t, r⟩ := q
    simp only [D.noE]
    exact DRels.calm hn l xs r
  | .exn _ _ _, _, q => by
    simp only [DRel] at q
    obtain ⟨a, cls, od, e, _⟩ := q
    rw [hn] at e; cases e
  | .ins c ns ds, _, q => by
    simp only [DRel] at q
    obtain ⟨a, C, dx, xs, e, hC, h1, f1, h2, f2, hl, r⟩ := q
    simp only [D.noE]
    exact DRels.calm hn ds xs r
theorem DRels.calm {K : Kb} {W : Wd} (hn : K.hx = none) : ∀ (ds : List D) (vs : List V), DRels K W ds vs → D.noEs ds = true
  | [], _, _ => rfl
  | d :: ds, _, q => by
    simp only [DRels] at q
    obtain ⟨v, r, e, h1, h2⟩ := q
    simp only [D.noEs, DRel.calm hn d v h1, DRels.calm hn ds r h2, Bool.and_self]
end
theorem ORel.hxe {K : Kb} {W : Wd} {i : Nat} {a : Addr} (h : Option (Addr × Value × Option Addr)) : ∀ {o : MO}, ORel K W i a o → ORel (K.hxs h) W i a o
  | .lst l, ⟨xs, h1, h2, h3, h4⟩ => ⟨xs, h1, DRels.hxe h l xs (bels_noE i l h3) h2, h3, h4⟩
  | .dct _ l, ⟨xs, h1, h2, h3, h4, h5⟩ => ⟨xs, h1, h2, h3, h4, Paired.mapP h5 fun p x q => by
    obtain ⟨q1, q2, q3, ⟨v, q4, q5⟩, q6⟩ := q
    exact ⟨q1, q2, DRel.hxe h _ _ (keyly_noE _ (by
      cases e : p.1 with
      | tup l => rw [e] at q1; simp only [D.isKey, Bool.and_eq_true] at q1; exact q1.1
      | _ => rw [e] at q1; simp [D.isKey] at q1)) q3, ⟨v, DRel.hxe h _ _ (bel_noE i _ q6) q4, q5⟩, q6⟩⟩
  | .dks _ l, ⟨kvs, h1, h2⟩ => ⟨kvs, h1, Paired.mapP h2 fun p x q => ⟨q.1, DRel.hxe h _ _ (bel_noE i _ q.2.2) q.2.1, q.2.2⟩⟩
  | .ins c fs, ⟨C, dx, xs, h1, h2, h3, h4, h5, h6, h7⟩ => ⟨C, dx, xs, h1, h2, h3, h4, h5, by
    have key : ∀ {fs : List (Str × D)} {xs : List (Str × V)}, Paired (FRel K W) fs xs → D.bels i (fs.map (·.2)) = true → Paired (FRel (K.hxs h) W) fs xs := by
      intro fs xs p
      induction p with
      | nil => intro _; exact .nil
      | cons r t ih =>
        intro b
        simp only [List.map_cons, D.bels, Bool.and_eq_true] at b
        exact .cons ⟨r.1, DRel.hxe h _ _ (bel_noE i _ b.1) r.2⟩ (ih b.2)
    exact key h6 h7, h7⟩
theorem MRel.hxe {K : Kb} {W : Wd} {M : Mem} (h : Option (Addr × Value × Option Addr)) (m : MRel K W M) : MRel (K.hxs h) W M := ⟨m.len, m.nd, fun i a o h1 h2 => (m.obj i a o h1 h2).hxe h, m.pv, m.kk⟩
def noEE (r : EV) : Bool := r.all fun o => match o with
  | some d => D.noE d
  | none => true
theorem SRel.hxe {K : Kb} {W : Wd} {s : L2.St} {r : EV} (h : Option (Addr × Value × Option Addr)) (b : noEE r = true) (q : SRel K W s r) : SRel (K.hxs h) W s r := ⟨q.len, fun i d e => by
  obtain ⟨v, e1, e2⟩ := q.get i d e
  have := List.all_eq_true.mp b _ (List.mem_of_getElem? e)
  exact ⟨v, e1, DRel.hxe h d v this e2⟩⟩
theorem SRel.calm {K : Kb} {W : Wd} {s : L2.St} {r : EV} (hn : K.hx = none) (q : SRel K W s r) (h : Option (Addr × Value × Option Addr)) : SRel (K.hxs h) W s r := ⟨q.len, fun i d e => by
  obtain ⟨v, e1, e2⟩ := q.get i d e
  exact ⟨v, e1, DRel.hxe h d v (DRel.calm hn d v e2) e2⟩⟩
variable {T : Tb} {C : CC}
/-! ### raise X() -/
def mRse (c : Str) : MS := fun _ r M => .ok (.rse ⟨c, []⟩ r) M
theorem pmk_own0 {X : Cx} {c : Str} {p pos : Pos} {D0 : Addr} (hm : X.mg c = some (.ref D0)) (hk : PySem.W.keepIn X.K (.ref D0) = true) (hx : PySem.W.excIn X.K D0 [.type "ValueError", .type "Exception", .type "BaseException", .type "object"] "ValueError.__new__" = true) (hr : Raises X (.ref D0)) (hg : Gl X c) (hdb : (c == ("__debug__" : Str)) = false) : PMk X (.Call (.Name c p) [] [] pos) (fun _ H Q => Q (.ref D0) none H) := by
  intro pins s σ H Q I q
  refine wpAny_Call_Name_kw (ld_glob I hg hm ?_ hdb)
  refine PySem.W.callWith_K0 I.kIn hk ?_
  obtain ⟨_, _, _, _, _, _, _, _, _, _, _, _, _, _, _, _, _, y1, y2, y3, y4⟩ := exc_obj I.kIn hx
  exact wpAny_call_exc_subT (rest := []) F.excBase_ValueError y4 y1 y2 y3 (fun h' e z => mk_of I z hr q (I.hok.gone z.new)) (by decide)
theorem ok_raise (hq : C.calm = true) {c : Str} {p pos pos2 : Pos} (hc : c ∈ T.exs) (hg : C.sc.names.lookup c = some .globalImplicit) (hdb : (c == ("__debug__" : Str)) = false) : OkS T C (.Raise (some (.Call (.Name c p) [] [] pos)) none pos2) (mRse c) := by
  intro n X wx h
  obtain ⟨D0, g1, g2, g3, g4, g5⟩ := h.exs c hc
  refine PS.of (ps_raise (h.calm.trans hq) h.tk (pmk_own0 g1 g2 g3 (raises_own g4 g5) (gl_of h hg) hdb)) fun Dn s H q => ?_
  obtain ⟨mu, M, r, mr, sr, sat⟩ := q
  exact ⟨⟨c, []⟩, mu, ⟨g1, rfl⟩, sat.ok mr s sr⟩
end RI

namespace RI
open PySem PySem.Spec PyProof.Rows L2
variable {T : Tb} {C : CC}
/-! ### try .. except X: .. -/
def exmD (E : List (Str × Str × Bool)) (c a : Str) : Option Bool := (E.find? fun p => decide (p.1 = c) && decide (p.2.1 = a)).map (·.2.2)
theorem exmD_mem {c a : Str} {b : Bool} (h : exmD T.exm c a = some b) : (c, a, b) ∈ T.exm := by
  unfold exmD at h
  cases e : T.exm.find? fun p => decide (p.1 = c) && decide (p.2.1 = a) with
  | none => rw [e] at h; cases h
  | some p =>
    rw [e] at h
    have h1 := List.find?_some e
    have h2 := List.mem_of_find?_eq_some e
    simp only [Bool.and_eq_true, decide_eq_true_eq] at h1
    obtain ⟨p1, p2, p3⟩ := p
    simp only [Option.map_some, Option.some.injEq] at h h1
    obtain ⟨rfl, rfl⟩ := h1
    subst h
    exact h2
def clrE (i : Option Nat) (r : EV) : EV := match i with
  | some i => r.set i none
  | none => r
/-- behind a suite: its exception is gone -/
def suiteEnd (i : Option Nat) (f : Fl) (M : Mem) : Res Fl := match f with
  | .next r => if noEE (clrE i r) = true then .ok (.next (clrE i r)) M else .bad
  | .brk r => if noEE (clrE i r) = true then .ok (.brk (clrE i r)) M else .bad
  | .cont r => if noEE (clrE i r) = true then .ok (.cont (clrE i r)) M else .bad
  | .ret d => if D.noE d = true then .ok (.ret d) M else .bad
  | .rse _ _ => .bad
def hdls (E : List (Str × Str × Bool)) (x : Ex) (F : FT) (r : EV) (M : Mem) : List (Str × MS) → Res Fl
  | [] => .ok (.rse x r) M
  | (a, ms) :: hs => match exmD E x.cls a with
    | some true => (ms F r M).bind (suiteEnd none)
    | some false => hdls E x F r M hs
    | none => .bad
def mTry (E : List (Str × Str × Bool)) (mb : MS) (hs : List (Str × MS)) : MS := fun F r M => (mb F r M).bind fun f M1 => match f with
  | .rse x r1 => hdls E x F r1 M1 hs
  | f => .ok f M1
abbrev CC.suite (C : CC) : CC := { C with calm := false, top := false }
inductive OkH (T : Tb) (C : CC) : List ExceptHandler → List (Str × MS) → Prop where
  | nil : OkH T C [] []
  | cons {a : Str} {np pos : Pos} {b0 : Stmt} {suite : List Stmt} {ms : MS} {hds : List ExceptHandler} {hs : List (Str × MS)} (hg : C.sc.names.lookup a = some .globalImplicit) (hd : (a == ("__debug__" : Str)) = false) (hs' : OkSs T C.suite (b0 :: suite) ms) (t : OkH T C hds hs) :
      OkH T C (.ExceptHandler (some (.Name a np)) none (b0 :: suite) pos :: hds) ((a, ms) :: hs)
theorem KRel.hxe {K : Kb} (hn : K.hx = none) (h : Option (Addr × Value × Option Addr)) {d : D} {v : V} (q : KRel K d v) : KRel (K.hxs h) d v := fun W => DRel.hxe h d v (DRel.calm hn d v (q W)) (q W)
theorem CxOk.suite {n : Nat} {X : Cx} {wx : Ex → L2.St → Wd → Prop} (h : CxOk T n C X wx) (hq : C.calm = true) (a : Addr) (pn : List (Addr × Obj)) : CxOk T n C.suite (X.suite a pn) (fun _ _ _ => False) where
  sc := h.sc
  N := h.N
  nd := h.nd
  fn := h.fn
  kind := h.kind
  calm := rfl
  un := h.un
  room := fun z => by cases z
  stk := fun z => by cases z
  pas := PassesOwn.never
  tk := Takes.imp takes0 fun _ _ _ _ q => by
    obtain ⟨_, _, _, z⟩ := q
    exact z
  con := fun x d hl => by
    obtain ⟨u, v, e1, e2, e3⟩ := h.con x d hl
    exact ⟨u, v, e1, e2, KRel.hxe (K := kb X) (if_pos (h.calm.trans hq)) _ e3⟩
  blt := h.blt
  exs := h.exs
  exm := h.exm
  fns := h.fns
/-- the wish about exceptions, as it is told by data -/
def wxW (K : Kb) (W : WX) : Ex → L2.St → Wd → Prop := fun x σ V => ∀ cls d, ExRel K V x cls d → W cls d σ V.H
theorem CxOk.tr {n : Nat} {X : Cx} {wx : Ex → L2.St → Wd → Prop} (h : CxOk T n C X wx) (hq : C.calm = true) {W : WX} {pn : List (Addr × Obj)} {xe : Value → Shared → Prop} (tk : Takes (X.tr pn xe) W) (pas : PassesOwn (model X.prog X.w) X.A X.env xe) : CxOk T n C (X.tr pn xe) (wxW (kb X) W) := by
  have e : kb (X.tr pn xe) = kb X := by
    have h1 : hxOf X = none := if_pos (h.calm.trans hq)
    have h2 : hxOf (X.tr pn xe) = none := if_pos (h.calm.trans hq)
    unfold kb
    rw [h1, h2]
  exact {
    sc := h.sc, N := h.N, nd := h.nd, fn := h.fn, kind := h.kind, calm := h.calm, un := h.un, room := h.room, stk := h.stk, pas := pas
    tk := Takes.imp tk fun cls d σ H q => by
      obtain ⟨x, mu, er, z⟩ := q
      rw [e] at er
      exact z cls d er
    con := by rw [e]; exact h.con
    blt := h.blt, exs := h.exs, exm := h.exm, fns := h.fns }
theorem kx_tr {n : Nat} {X : Cx} {wx wx' : Ex → L2.St → Wd → Prop} (h : CxOk T n C X wx) (hq : C.calm = true) (pn : List (Addr × Obj)) (xe : Value → Shared → Prop) : kx (X.tr pn xe) wx' = kx X wx' := by
  have h1 : hxOf X = none := if_pos (h.calm.trans hq)
  have h2 : hxOf (X.tr pn xe) = none := if_pos (h.calm.trans hq)
  unfold kx kb
  rw [h1, h2]
/-- the suites' readings -/
abbrev suK (X : Cx) (a : Addr) (cls : Value) (d : Option Addr) : Kx := ⟨(kb X).hxs (some (a, cls, d)), fun _ _ _ => False, []⟩
def lds (X : Cx) (F : FT) : List (Value × MS) → List (Value × (Addr → Value → Option Addr → TS)) := List.map fun p => (p.1, fun a cls d => rdS (suK X a cls d) F p.2)
theorem hds_ok {n : Nat} {X : Cx} {wx : Ex → L2.St → Wd → Prop} (h : CxOk T n C X wx) (hq : C.calm = true) : ∀ {hds : List ExceptHandler} {hs : List (Str × MS)}, OkH T C hds hs → ∀ {vs : List (Value × MS)}, Paired (fun p q => X.mg p.1 = some q.1 ∧ p.2 = q.2) hs vs → HdsOk X hds (lds X (callF T n) vs)
  | _, _, .nil, _, pr => by cases pr; exact .nil
  | _, _, .cons (a := a0) (ms := ms) hg hd hs' t, _, pr => by
    cases pr with
    | @cons _ q _ l hp pr =>
      obtain ⟨c, m⟩ := q
      obtain ⟨h1, h2⟩ := hp
      simp only at h1 h2
      subst h2
      refine HdsOk.cons (c := c) ⟨gl_of h hg, hd, .inl h1⟩ (fun a oe cls d pn hz hf => ?_) (hds_ok h hq t pr)
      have q := hs' n _ _ (h.suite hq a ((a, oe) :: pn))
      have e : kx (X.suite a ((a, oe) :: pn)) (fun _ _ _ => False) = suK X a cls d := by
        obtain ⟨z1, z2⟩ := hz
        unfold kx kb
        have : hxOf (X.suite a ((a, oe) :: pn)) = some (a, cls, d) := by
          unfold hxOf
          rw [if_neg (by simp)]
          simp [z1, z2]
        rw [this]
      rw [e] at q
      exact q
/-- behind the suite -/
theorem suite_end {X : Cx} {a : Addr} {cls : Value} {d : Option Addr} {W : Wd} {r : Res Fl} {wx : Ex → L2.St → Wd → Prop} {Dn : Ends} (hn : (kb X).hx = none) (h : Sat (kb X).no W (r.bind (suiteEnd none)) (PF (kx X wx) Dn)) : Sat (suK X a cls d).b.no W r (PF (suK X a cls d) Dn) := by
  have back : ∀ {V : Wd} {M : Mem}, MRel (suK X a cls d).b V M → MRel (kb X) V M := fun m => by
    have := m.hxe (kb X).hx
    exact this
  have backS : ∀ {V : Wd} {s : L2.St} {r : EV}, noEE r = true → SRel (suK X a cls d).b V s r → SRel (kb X) V s r := fun b m => by
    have := m.hxe (kb X).hx b
    exact this
  cases r with
  | bad => exact h.elim
  | exc x M => exact fun W' l m => h W' l (back m)
  | ok f M =>
    have h : Sat (kb X).no W (suiteEnd none f M) (PF (kx X wx) Dn) := h
    cases f with
    | next r1 =>
      obtain ⟨b, h⟩ := sat_ite h
      exact fun W' l m s sr => h W' l (back m) s (backS b sr)
    | brk r1 =>
      obtain ⟨b, h⟩ := sat_ite h
      exact fun W' l m s sr => h W' l (back m) s (backS b sr)
    | cont r1 =>
      obtain ⟨b, h⟩ := sat_ite h
      exact fun W' l m s sr => h W' l (back m) s (backS b sr)
    | ret d1 =>
      obtain ⟨b, h⟩ := sat_ite h
      refine fun W' l m v dv => h W' l (back m) v ?_
      have := DRel.hxe (kb X).hx d1 v b dv
      exact this
    | rse x r1 => exact h.elim
theorem ok_try (hq : C.calm = true) (ht : C.top = true) {body : List Stmt} {h0 : ExceptHandler} {hds : List ExceptHandler} {pos : Pos} {mb : MS} {hs : List (Str × MS)} (hb : OkSs T C body mb) (hh : OkH T C (h0 :: hds) hs) (hne : ∀ p ∈ hs, ∃ q ∈ T.exm, q.2.1 = p.1) : OkS T C (.Try body (h0 :: hds) [] [] pos) (mTry T.exm mb hs) := by
  intro n X wx h
  obtain ⟨hst, hfr⟩ := h.stk ht
  have hn : (kb X).hx = none := if_pos (h.calm.trans hq)
  have vals : ∀ hs : List (Str × MS), (∀ p ∈ hs, ∃ q ∈ T.exm, q.2.1 = p.1) → ∃ vs : List (Value × MS), Paired (fun p q => X.mg p.1 = some q.1 ∧ p.2 = q.2) hs vs := by
    intro hs
    induction hs with
    | nil => intro _; exact ⟨[], .nil⟩
    | cons p hs ih =>
      intro hne
      obtain ⟨q, hq1, hq2⟩ := hne p List.mem_cons_self
      obtain ⟨_, A, _, g2, _⟩ := h.exm q hq1
      obtain ⟨vs, hv⟩ := ih fun z hz => hne z (List.mem_cons_of_mem _ hz)
      exact ⟨(.ref A, p.2) :: vs, .cons ⟨by rw [← hq2]; exact g2, rfl⟩ hv⟩
  obtain ⟨vs, hv⟩ := vals hs hne
  refine PS.of (ps_try_many (tb := fun W => rdS (kx X (wxW (kb X) W)) (callF T n) mb) hst hfr h.tk (fun W pn xe tk pas => by rw [← kx_tr h hq pn xe]; exact hb n _ _ (h.tr hq tk pas)) (hds_ok h hq hh hv)) fun Dn s H q => ?_
  obtain ⟨mu, M, r, mr, sr, sat⟩ := q
  refine ⟨mu, M, r, mr, sr, (Sat.bind (show Sat (kb X).no ⟨H, mu⟩ ((mb (callF T n) r M).bind _) _ from sat)).imp fun f M1 W1 l1 m1 s1 => ?_⟩
  cases f with
  | next r1 => exact Sat.ok (show Sat _ _ (Res.ok (Fl.next r1) M1) _ from s1) m1
  | brk r1 => exact Sat.ok (show Sat _ _ (Res.ok (Fl.brk r1) M1) _ from s1) m1
  | cont r1 => exact Sat.ok (show Sat _ _ (Res.ok (Fl.cont r1) M1) _ from s1) m1
  | ret d => exact Sat.ok (show Sat _ _ (Res.ok (Fl.ret d) M1) _ from s1) m1
  | rse x r1 =>
    intro s' sr' cls d er
    replace s1 : Sat (kb X).no W1 (hdls T.exm x (callF T n) r1 M1 hs) (PF (kx X wx) Dn) := s1
    replace sr' : SRel (kb X) W1 s' r1 := sr'
    replace er : ExRel (kb X) W1 x cls d := er
    clear hh hne sat
    induction hv with
    | nil =>
      exact ⟨x, W1.mu, er, s1.ok m1 s' sr'⟩
    | @cons p q l l' hp t ih =>
      obtain ⟨a0, ms⟩ := p
      obtain ⟨c, m⟩ := q
      obtain ⟨h1, h2⟩ := hp
      simp only at h1 h2
      subst h2
      simp only [hdls] at s1
      cases e : exmD T.exm x.cls a0 with
      | none => rw [e] at s1; exact s1.elim
      | some b =>
        obtain ⟨D0, A, g1, g2, g3⟩ := h.exm _ (exmD_mem e)
        simp only at g1 g2 g3
        have c1 : cls = .ref D0 := by
          have := er.1
          have g1 : (kb X).mg x.cls = some (.ref D0) := g1
          rw [g1] at this; cases this; rfl
        have c2 : c = .ref A := by rw [g2] at h1; cases h1; rfl
        subst c1 c2
        rw [e] at s1
        refine ⟨b, g3, fun hb a ha => ?_, fun hb => ?_⟩
        · subst hb
          refine ⟨W1.mu, M1, r1, m1.hxe _, sr'.calm hn _, suite_end hn s1⟩
        · subst hb
          exact ih s1
end RI

namespace RI
open PySem PySem.Spec PyProof.Rows L2

/-! ### what a call hands back -/
section
variable {K : Kb} {W W' : Wd} {M' : Mem} {mark : Nat}
abbrev cutW (W' : Wd) (mark : Nat) : Wd := ⟨W'.H, ⟨W'.mu.l.take mark, W'.mu.p, W'.mu.k⟩⟩
theorem fz_cut {a : Addr} (h : Fz W' a) : Fz (cutW W' mark) a := ⟨h.1.imp_left fun n z => n (List.mem_of_mem_take z), h.2⟩
mutual
theorem frz_rel {g : Nat → D} (hg : ∀ i v, DRel K W' (.obj i) v → D.bel mark (g i) = true → DRel K (cutW W' mark) (g i) v) : ∀ (d : D) (v : V), DRel K W' d v → D.bel mark (D.frz g d) = true → DRel K (cutW W' mark) (D.frz g d) v
  | .non, _, h, _ => h
  | .bl _, _, h, _ => h
  | .int _, _, h, _ => h
  | .str _, _, h, _ => h
  | .obj i, v, h, b => hg i v h b
  | .exn _ _ _, _, _, b => by simp [D.frz, D.bel] at b
  | .tup l, v, h, b => by
    simp only [D.frz, DRel, D.bel] at h b ⊢
    obtain ⟨a, xs, e, t, r⟩ := h
    refine ⟨a, xs, e, ?_, frzs_rel hg l xs r b⟩
    rcases t with t | t
    · exact .inl ⟨t.1, fz_cut t.2⟩
    · exact .inr t
  | .lst l, v, h, b => by
    simp only [D.frz, DRel, D.bel] at h b ⊢
    obtain ⟨a, xs, e, t, r⟩ := h
    refine ⟨a, xs, e, ?_, frzs_rel hg l xs r b⟩
    rcases t with t | t
    · exact .inl ⟨t.1, fz_cut t.2⟩
    · exact .inr t
  | .ins c ns ds, v, h, b => by
    simp only [D.frz, DRel, D.bel] at h b ⊢
    obtain ⟨a, C, dx, xs, e, hC, h1, f1, h2, f2, hl, r⟩ := h
    have hl' : (D.frzs g ds).length = ds.length := by
      clear r hl b
      induction ds with
      | nil => rfl
      | cons d ds ih => simp only [D.frzs, List.length_cons, ih]
    exact ⟨a, C, dx, xs, e, hC, h1, fz_cut f1, h2, fz_cut f2, by rw [hl']; exact hl, frzs_rel hg ds xs r b⟩
theorem frzs_rel {g : Nat → D} (hg : ∀ i v, DRel K W' (.obj i) v → D.bel mark (g i) = true → DRel K (cutW W' mark) (g i) v) : ∀ (ds : List D) (vs : List V), DRels K W' ds vs → D.bels mark (D.frzs g ds) = true → DRels K (cutW W' mark) (D.frzs g ds) vs
  | [], _, h, _ => h
  | d :: ds, _, h, b => by
    simp only [D.frzs, DRels, D.bels, Bool.and_eq_true] at h b ⊢
    obtain ⟨v, r, e, h1, h2⟩ := h
    exact ⟨v, r, e, frz_rel hg d v h1 b.1, frzs_rel hg ds r h2 b.2⟩
end
theorem frzM_rel (m : MRel K W' M') : ∀ (n i : Nat) (v : V), DRel K W' (.obj i) v → D.bel mark (frzM M' mark n i) = true → DRel K (cutW W' mark) (frzM M' mark n i) v := by
  have low : ∀ (i : Nat) (v : V), DRel K W' (.obj i) v → i < mark → DRel K (cutW W' mark) (.obj i) v := fun i v h hi => by
    simp only [DRel] at h ⊢
    obtain ⟨a, e, q⟩ := h
    refine ⟨a, e, ?_⟩
    show (W'.mu.l.take mark)[i]? = some a
    rw [List.getElem?_take_of_lt hi]; exact q
  have out : ∀ (i : Nat) (a : Addr), ¬ i < mark → W'.mu.l[i]? = some a → a ∉ (cutW W' mark).mu.l := by
    intro i a hi q z
    obtain ⟨j, hj⟩ := List.getElem?_of_mem z
    have hjm : j < mark := by
      by_cases q2 : j < mark
      · exact q2
      · have : (W'.mu.l.take mark).length ≤ j := by rw [List.length_take]; omega
        have hj : (W'.mu.l.take mark)[j]? = some a := hj
        rw [List.getElem?_eq_none this] at hj; cases hj
    have hj : (W'.mu.l.take mark)[j]? = some a := hj
    rw [List.getElem?_take_of_lt hjm] at hj
    have hjl : j < W'.mu.l.length := by
      by_cases q2 : j < W'.mu.l.length
      · exact q2
      · rw [List.getElem?_eq_none (by omega)] at hj; cases hj
    have := (List.getElem?_inj hjl m.nd).mp (hj.trans q.symm)
    omega
  intro n
  induction n with
  | zero =>
    intro i v h b
    simp only [frzM, D.bel, decide_eq_true_eq] at b ⊢
    exact low i v h b
  | succ n ih =>
    intro i v h b
    simp only [frzM] at b ⊢
    by_cases hi : i < mark
    · rw [if_pos hi]; exact low i v h hi
    · rw [if_neg hi] at b ⊢
      cases e : M'[i]? with
      | none =>
        rw [e] at b
        simp only [D.bel, decide_eq_true_eq] at b
        exact absurd b hi
      | some o =>
        rw [e] at b
        cases o with
        | lst l =>
          simp only [D.bel] at b
          have h' := h
          simp only [DRel] at h' ⊢
          obtain ⟨a, rfl, q⟩ := h'
          obtain ⟨xs, eh, dr, _⟩ := m.obj i a _ q e
          exact ⟨a, xs, rfl, .inl ⟨.inl eh, .inl (out i a hi q), fun z => (m.pv a z).2 (List.mem_of_getElem? q)⟩, frzs_rel ih l xs dr b⟩
        | ins c fs =>
          simp only [D.bel] at b
          have h' := h
          simp only [DRel] at h' ⊢
          obtain ⟨a, rfl, q⟩ := h'
          obtain ⟨C, dx, xs, h1, h2, h3, h4, h5, h6, _⟩ := m.obj i a _ q e
          have key : ∀ {fs : List (Str × D)} {xs : List (Str × V)}, Paired (FRel K W') fs xs → DRels K W' (fs.map (·.2)) (xs.map (·.2)) ∧ xs = (fs.map (·.1)).zip (xs.map (·.2)) := by
            intro fs xs p
            induction p with
            | nil => exact ⟨rfl, rfl⟩
            | @cons p x fs xs r t ih =>
              refine ⟨⟨x.2, _, rfl, r.2, ih.1⟩, ?_⟩
              simp only [List.map_cons, List.zip_cons_cons, ← ih.2]
              rw [r.1]
          obtain ⟨k1, k2⟩ := key h6
          refine ⟨a, C, dx, xs.map (·.2), rfl, h1, by rw [← k2]; exact h2, ⟨.inl (out i a hi q), fun z => (m.pv a z).2 (List.mem_of_getElem? q)⟩, h4, fz_cut h5, ?_, frzs_rel ih _ _ k1 b⟩
          have : ∀ ds : List D, (D.frzs (frzM M' mark n) ds).length = ds.length := fun ds => by
            induction ds with
            | nil => rfl
            | cons d ds ih => simp only [D.frzs, List.length_cons, ih]
          rw [this, List.length_map, List.length_map]
        | dct _ l =>
          simp only [D.bel, decide_eq_true_eq] at b
          exact absurd b hi
        | dks _ l =>
          simp only [D.bel, decide_eq_true_eq] at b
          exact absurd b hi
mutual
theorem keyly_bel (n : Nat) : ∀ d : D, D.keyly d = true → D.bel n d = true
  | .non, _ => rfl
  | .bl _, _ => rfl
  | .int _, _ => rfl
  | .str _, _ => rfl
  | .tup l, h => by simp only [D.keyly] at h; simp only [D.bel]; exact keylys_bel n l h
  | .lst _, h => by simp [D.keyly] at h
  | .obj _, h => by simp [D.keyly] at h
  | .exn _ _ _, h => by simp [D.keyly] at h
  | .ins _ _ _, h => by simp [D.keyly] at h
theorem keylys_bel (n : Nat) : ∀ ds : List D, D.keylys ds = true → D.bels n ds = true
  | [], _ => rfl
  | d :: ds, h => by
    simp only [D.keylys, Bool.and_eq_true] at h
    simp only [D.bels, keyly_bel n d h.1, keylys_bel n ds h.2, Bool.and_self]
end
theorem isKey_keyly {d : D} (h : D.isKey d = true) : D.keyly d = true := by
  cases d with
  | tup l => simp only [D.isKey, Bool.and_eq_true] at h; exact h.1
  | _ => simp [D.isKey] at h
theorem KVR.lo {i : Nat} (l : Lo i W W') {p : D × D} {x : NestedKey × Addr × Value} (h : KVR K W i p x) : KVR K W' i p x := by
  obtain ⟨h1, h2, h3, ⟨v, h4, h5⟩, h6⟩ := h
  exact ⟨h1, h2, DRel.lo l _ _ (keyly_bel i _ (isKey_keyly h1)) h3, ⟨v, DRel.lo l _ _ h6 h4, h5⟩, h6⟩
theorem ORel.lo {i : Nat} (l : Lo i W W') {a : Addr} (e : W'.H a = W.H a) (k : a ∈ W'.mu.k ↔ a ∈ W.mu.k) : ∀ {o : MO}, ORel K W i a o → ORel K W' i a o
  | .lst l', ⟨xs, h1, h2, h3, h4⟩ => ⟨xs, e.trans h1, DRels.lo l l' xs h3 h2, h3, fun z => h4 (k.mp z)⟩
  | .dct _ l', ⟨xs, h1, h2, h3, h4, h5⟩ => ⟨xs, h1.lk e k, h2, h3, h4, Paired.mapP h5 fun _ _ q => q.lo l⟩
  | .dks _ l', ⟨kvs, h1, h2⟩ => ⟨kvs, h1.lk e k, Paired.mapP h2 fun _ _ q => ⟨q.1, DRel.lo l _ _ q.2.2 q.2.1, q.2.2⟩⟩
  | .ins c fs, ⟨C, dx, xs, h1, h2, h3, h4, h5, h6, h7⟩ => ⟨C, dx, xs, h1, e.trans h2, fun z => h3 (k.mp z), (l.keep dx _ h4 h5).1, (l.keep dx _ h4 h5).2, by
    have key : ∀ {fs : List (Str × D)} {xs : List (Str × V)}, Paired (FRel K W) fs xs → D.bels i (fs.map (·.2)) = true → Paired (FRel K W') fs xs := by
      intro fs xs p
      induction p with
      | nil => intro _; exact .nil
      | cons r t ih =>
        intro b
        simp only [List.map_cons, D.bels, Bool.and_eq_true] at b
        exact .cons ⟨r.1, DRel.lo l _ _ b.1 r.2⟩ (ih b.2)
    exact key h6 h7, h7⟩
theorem cut_mrel (m : MRel K W' M') : MRel K (cutW W' mark) (M'.take mark) := by
  refine ⟨by show (W'.mu.l.take mark).length = _; rw [List.length_take, List.length_take, m.len], m.nd.sublist (List.take_sublist _ _), fun i a o h1 h2 => ?_, fun a ha => ⟨(m.pv a ha).1, fun z => (m.pv a ha).2 (List.mem_of_mem_take z)⟩, m.kk⟩
  have h1 : (W'.mu.l.take mark)[i]? = some a := h1
  have hi : i < mark := by
    by_cases q2 : i < mark
    · exact q2
    · have : (W'.mu.l.take mark).length ≤ i := by rw [List.length_take]; omega
      rw [List.getElem?_eq_none this] at h1; cases h1
  rw [List.getElem?_take_of_lt hi] at h1 h2
  exact (m.obj i a o h1 h2).lo (W := W') (W' := cutW W' mark) ⟨fun j hj => by show (W'.mu.l.take mark)[j]? = _; rw [List.getElem?_take_of_lt (by omega)], fun a o h nf => ⟨h, fz_cut nf⟩⟩ rfl Iff.rfl
theorem cut_le {M : Mem} (m : MRel K W M) (l : Le W W') : Le W (cutW W' M.length) := by
  obtain ⟨t, e⟩ := l.pre
  refine ⟨⟨⟨[], ?_⟩, fun a o h nf => ⟨(l.keep a o h nf).1, fz_cut (l.keep a o h nf).2⟩⟩, l.pv, l.pvk⟩
  show W'.mu.l.take M.length = _
  rw [e, ← m.len, List.take_left, List.append_nil]
theorem fin_of {M : Mem} {keep : Bool} {d : D} {Q : VK} {xw : Ex → L2.St → Wd → Prop} (m : MRel K W M) (h : Sat ⟨K, xw, []⟩ W (fin keep M.length d M') (PV K Q)) (l : Le W W') (m' : MRel K W' M') {v : V} (dv : DRel K W' d v) : Q v W'.H := by
  unfold fin at h
  by_cases hk : keep = true
  · rw [if_pos hk] at h
    exact h W' l m' v dv
  · rw [if_neg hk] at h
    obtain ⟨b, h⟩ := sat_ite h
    exact h (cutW W' M.length) (cut_le m l) (cut_mrel m') v (frz_rel (frzM_rel m' 3) d v dv b)
theorem fields_rel {g : Nat → D} (hg : ∀ i v, DRel K W' (.obj i) v → D.bel mark (g i) = true → DRel K (cutW W' mark) (g i) v) : ∀ {fs : List (Str × D)} {vs : List (Str × V)}, Paired (FRel K W') fs vs → D.bels mark (D.frzs g (fs.map (·.2))) = true →
    Paired (FRel K (cutW W' mark)) (fs.map fun p => (p.1, D.frz g p.2)) vs
  | _, _, .nil, _ => .nil
  | _, _, .cons r t, b => by
    simp only [List.map_cons, D.frzs, D.bels, Bool.and_eq_true] at b
    exact .cons ⟨r.1, frz_rel hg _ _ r.2 b.1⟩ (fields_rel hg t b.2)
theorem finX_of {M : Mem} {x : Ex} {E : XK} (m : MRel K W M) (P : D → Mem → Wd → Prop) (h : Sat ⟨K, xwOf K E, []⟩ W (finX M.length x M') P) (l : Le W W') (m' : MRel K W' M') (s : L2.St) : xwOf K E x s W' := by
  unfold finX at h
  obtain ⟨b, h⟩ := sat_ite h
  intro cls d er
  refine h (cutW W' M.length) (cut_le m l) (cut_mrel m') cls d ⟨er.1, ?_⟩
  have er2 := er.2
  cases d with
  | none =>
    show List.map _ _ = []
    have e : x.fs = [] := er2
    rw [e]; rfl
  | some dx =>
    obtain ⟨fz, fs, e, r⟩ := er2
    exact ⟨fz_cut fz, fs, e, fields_rel (frzM_rel m' 3) r b⟩
theorem ret_of {M : Mem} {keep : Bool} {r : Res Fl} {Q : VK} {E : XK} (m : MRel K W M) (h : Sat ⟨K, xwOf K E, []⟩ W (retOf keep M.length r) (PV K Q)) : Sat K.no W r (PF ⟨K, xwOf K E, []⟩ { nx := fun _ H' => Q .non H', rt := Q }) := by
  cases r with
  | bad => exact h.elim
  | exc _ _ => exact h.elim
  | ok f M' =>
    cases f with
    | ret d => exact fun W' l m' v dv => fin_of m h l m' dv
    | next r1 => exact fun W' l m' s _ => fin_of (d := .non) m h l m' rfl
    | brk r1 => exact h.elim
    | cont r1 => exact h.elim
    | rse x r1 => exact fun W' l m' s _ => finX_of m _ h l m' s
end
theorem start_rel {K : Kb} {W : Wd} {N : List Str} {ds : List D} {vs : List V} (r : DRels K W ds vs) : SRel K W (L2.start N vs) (startE N ds) := by
  have hl := r.length
  refine ⟨by unfold L2.start startE; simp [hl], fun i d h => ?_⟩
  unfold startE at h
  have hi : i < ds.length := by
    by_cases q : i < ds.length
    · exact q
    · rw [List.getElem?_append_right (by simpa using q), List.getElem?_replicate] at h
      split at h <;> cases h
  rw [List.getElem?_append_left (by simpa using hi), List.getElem?_map] at h
  have e : ds[i]? = some d := by
    cases e : ds[i]? with
    | none => rw [e] at h; cases h
    | some x => rw [e] at h; cases h; rfl
  obtain ⟨v, ev, dv⟩ := r.get e
  refine ⟨v, ?_, dv⟩
  unfold L2.start
  rw [List.getElem?_append_left (by simpa [← hl] using hi), List.getElem?_map, ev]
  rfl

/-! ### the defs of the text -/
structure FnAt (T : Tb) (K : PySem.W.Frag) (mg : Str → Option Value) (f : Fn) : Prop where
  ex : ∃ (a : Addr) (fd : FuncData) (st : Stmt) (qual x : Str) (mt : List (Nat × Nat)), Fun K x qual st a fd ∧ FnScope f.N f.ps (defScope st) ∧ mg f.name = some (.ref a) ∧ Binds K fd f.ps [] ∧ OkSs T ⟨defScope st, f.N, fun _ => true, mt, true, true⟩ (defBody st) f.body
structure TbAt (T : Tb) (K : PySem.W.Frag) (mg : Str → Option Value) (P : Program) (w : World) : Prop where
  fns : ∀ (k : Nat) (f : Fn), T.fns[k]? = some f → FnAt T K mg f
  con : ∀ x d, T.con.lookup x = some d → ∃ u v, mg x = some u ∧ RelV v u ∧ KRel ⟨K, P, w, mg, none⟩ d v
  blt : ∀ x, x ∈ T.blt → mg x = none
  exs : ∀ c, c ∈ T.exs → ExCls K mg c
  exm : ∀ p, p ∈ T.exm → ExMat K mg p
theorem all_ok {P : Program} {w : World} {K : PySem.W.Frag} {mg : Str → Option Value} {base : Heap} {T : Tb} (A : TbAt T K mg P w) : ∀ (n k : Nat) (f : Fn), T.fns[k]? = some f → ∀ (a : Addr) (fd : FuncData), (∃ (st : Stmt) (qual x : Str) (mt : List (Nat × Nat)), Fun K x qual st a fd ∧ FnScope f.N f.ps (defScope st) ∧ OkSs T ⟨defScope st, f.N, fun _ => true, mt, true, true⟩ (defBody st) f.body) →
    FnOk P w K mg base (L2.CX P w) n a fd f.ps (spF T ⟨K, P, w, mg, none⟩ f.ps n k) := by
  intro n
  induction n with
  | zero =>
    intro k f hf a fd _
    refine ⟨fun vs H Q E h => h.1, fun A' outer s H args us vs Q E hr e0 hb hv hs => ?_⟩
    obtain ⟨_, mu, M, ds, _, _, sat⟩ := hs
    exact sat.elim
  | succ n ih =>
    rintro k f hf a fd ⟨st, qual, x, mt, F, S, ok⟩
    refine F.okX S (fun vs H Q E h => h.1) fun cdv A' outer s H vs Q E hr hsp => ?_
    obtain ⟨hl, mu, M, ds, mr, dr, sat⟩ := hsp
    refine ⟨_, ok n _ (xwOf ⟨K, P, w, mg, none⟩ E) ⟨rfl, rfl, S.nd, rfl, S.kind, rfl, (by have := hr.un; show (A'.deeper (envOfC qual (defScope st) s.heap.objs.size a cdv)).units + 200 < cLine; omega), fun _ => hr, fun _ => ⟨rfl, rfl⟩, passes_of rfl, Takes.imp (takes_of rfl rfl rfl rfl) (fun cls d σ H q => let ⟨x, mu, er, z⟩ := q; z cls d er), A.con, A.blt, A.exs, A.exm, fun k' f' hf' => ?_⟩, ?_⟩
    · obtain ⟨a', fd', st', qual', x', mt', F', S', m', b', ok'⟩ := (A.fns k' f' hf').ex
      exact ⟨a', fd', m', F'.kp, b', ih k' f' hf' a' fd' ⟨st', qual', x', mt', F', S', ok'⟩⟩
    · refine ⟨mu, M, startE f.N ds, mr, start_rel dr, ?_⟩
      simp only [callF, hf] at sat
      obtain ⟨_, sat⟩ := sat_ite sat
      exact ret_of mr sat
end RI

namespace RI
open PySem PySem.Spec PyProof.Rows L2
section
variable {T : Tb} {C : CC}
def mChain (f g : D → D → Mem → Res D) (a b c : ME) : ME := fun F r M => (a F r M).bind fun x M1 => (b F r M1).bind fun y M2 => (f x y M2).noX.bind fun z M3 => match z with
  | .bl true => (c F r M3).bind fun w M4 => (g y w M4).noX
  | .bl false => .ok (.bl false) M3
  | _ => .bad
theorem chain_of {K : Kx} {F : FT} {f g : D → D → Mem → Res D} {a b c : ME} {s : L2.St} {H : Hp} {Q : VK} (q : rdE K F (mChain f g a b c) s H Q) : tChain (rB K.b f) (rB K.b g) (rdE K F a) (rdE K F b) (rdE K F c) s H Q := by
  obtain ⟨mu, M, r, mr, sr, sat⟩ := q
  refine ⟨mu, M, r, mr, sr, sat.bind.imp fun x M1 W1 l1 m1 s1 v dv => ?_⟩
  refine ⟨W1.mu, M1, r, m1, sr.le l1, s1.bind.imp fun y M2 W2 l2 m2 s2 u du => ?_⟩
  refine ⟨W2.mu, M2, x, y, m2, DRel.le l2 x v dv, du, s2.bind.noX.imp fun z M3 W3 l3 m3 s3 zv dz => ?_⟩
  cases z with
  | bl k =>
    cases (show zv = _ from dz)
    refine ⟨k, rfl, ?_⟩
    cases k with
    | true =>
      refine iteT ⟨W3.mu, M3, r, m3, sr.le ((l1.trans l2).trans l3), s3.bind.imp fun w M4 W4 l4 m4 s4 wv dw => ?_⟩
      exact ⟨W4.mu, M4, y, w, m4, DRel.le (l3.trans l4) y u du, dw, s4.noX⟩
    | false => exact iteF (Sat.ok (show Sat _ _ (Res.ok (D.bl false) M3) _ from s3) m3 _ rfl)
  | _ => exact s3.elim
theorem ok_chain {a b c : Expr} {op op' : CmpOp} {pos : Pos} {f g : D → D → Mem → Res D} {ma mb mc : ME} (ho : ∀ n X wx, CxOk T n C X wx → OpR X (compareOp op) (rB (kb X) f)) (ho' : ∀ n X wx, CxOk T n C X wx → OpR X (compareOp op') (rB (kb X) g)) (ha : OkE T C a ma) (hb : OkE T C b mb) (hc : OkE T C c mc) (hm : lastMarks [op, op'] [b, c] = false) : OkE T C (.Compare a [op, op'] [b, c] pos) (mChain f g ma mb mc) := by
  intro n X wx h
  exact PE.of (pe_chain (ho n X wx h) (ho' n X wx h) (ha n X wx h) (hb n X wx h) (hc n X wx h) hm) fun s H Q q => chain_of q
theorem ok_tchain {a b c : Expr} {op op' : CmpOp} {pos : Pos} {f g : D → D → Mem → Res D} {ma mb mc : ME} (ho : ∀ n X wx, CxOk T n C X wx → OpR X (compareOp op) (rB (kb X) f)) (ho' : ∀ n X wx, CxOk T n C X wx → OpR X (compareOp op') (rB (kb X) g)) (ha : OkE T C a ma) (hb : OkE T C b mb) (hc : OkE T C c mc) (hm : lastMarks [op, op'] [b, c] = false) : OkT T C (.Compare a [op, op'] [b, c] pos) (mTB (mChain f g ma mb mc)) := by
  intro n X wx h
  refine PT.of (pt_chain (ho n X wx h) (ho' n X wx h) (ha n X wx h) (hb n X wx h) (hc n X wx h) hm) fun s H Q q => ?_
  obtain ⟨mu, M, r, mr, sr, sat⟩ := tB_of q
  exact chain_of ⟨mu, M, r, mr, sr, sat⟩
/-- - n, written -/
def mNeg (m : ME) : ME := fun F r M => (m F r M).bind fun d M1 => match d with
  | .int i => .ok (.int (-i)) M1
  | _ => .bad
theorem ok_neg {a : Expr} {pos : Pos} {m : ME} (h : OkE T C a m) : OkE T C (.UnaryOp .USub a pos) (mNeg m) := by
  intro n X wx q
  refine PE.of (pe_un un_neg (h n X wx q)) fun s H Q w => ?_
  obtain ⟨mu, M, r, mr, sr, sat⟩ := w
  refine ⟨mu, M, r, mr, sr, sat.bind.imp fun d M1 W1 l1 m1 s1 v dv => ?_⟩
  cases d with
  | int i => cases (show v = _ from dv); exact ⟨i, rfl, s1.ok m1 _ rfl⟩
  | _ => exact s1.elim
theorem swap_none {tg e : Expr} {env : Env} (h : (match e with | .Tuple .. => false | _ => true) = true) : swappedStores [tg] e env = pure none := by
  cases e <;> first | (cases tg <;> rfl) | cases h
theorem swap_none_name {x : Str} {p : Pos} {e : Expr} {env : Env} : swappedStores [.Name x p] e env = pure none := by
  cases e <;> rfl
theorem swap_none_sub {a b : Expr} {p : Pos} {e : Expr} {env : Env} : swappedStores [.Subscript a b p] e env = pure none := by
  cases e <;> rfl
def swNames (sc : Scope) (ts : List Expr) : List Str := ts.filterMap fun
  | .Name id pos => if sc.names.lookup id == some .local && pos.line == ((ts.head?.map (·.pos.line)).getD 0) then some id else none
  | _ => none
def swNone (sc : Scope) (ts vs : List Expr) : Bool := !(ts.length == 2 || ts.length == 3) || vs.length != ts.length || (swNames sc ts).length != ts.length || (swNames sc ts).eraseDups.length != (swNames sc ts).length || vs.all (foldedForSure 8)
theorem star_any {vs : List Expr} (hv : vs.all noStar = true) : (vs.any fun | .Starred .. => true | _ => false) = false := by
  rw [List.any_eq_false]
  intro e he
  have := List.all_eq_true.mp hv e he
  cases e <;> first | (simp; done) | cases this
theorem swap_of {ts vs : List Expr} {kt k2 : Nat} {pt pt2 : Pos} {env : Env} {sc : Scope} (hsc : env.scope = sc) (hk : sc.kind = .function) (hv : vs.all noStar = true) (hn : swNone sc ts vs = true) : swappedStores [.Tuple ts kt pt] (.Tuple vs k2 pt2) env = pure none := by
  subst hsc
  have hb' : env.blockKind = .function := by unfold Env.blockKind; rw [hk]; rfl
  have hs := star_any hv
  unfold swappedStores
  have en : (ts.filterMap fun
    | .Name id pos => if env.kindOf id == some .local && pos.line == ((ts.head?.map (·.pos.line)).getD 0) then some id else none
    | _ => none) = swNames env.scope ts := rfl
  simp only [hb', en, hs]
  simp only [swNone, Bool.or_eq_true] at hn
  split
  · rfl
  · split
    · rfl
    · split
      · rfl
      · split
        · rfl
        · rename_i h1 _ h2 h3
          exfalso
          have h2' : ¬ ((swNames env.scope ts).length != ts.length || (swNames env.scope ts).eraseDups.length != (swNames env.scope ts).length) = true := h2
          clear h2 en
          simp only [Bool.or_eq_true, not_or] at h1 h2'
          rcases hn with (((h | h) | h) | h) | h
          · exact h1.1.1 h
          · exact h1.1.2 h
          · exact h2'.1 h
          · exact h2'.2 h
          · exact h3 h
def swYes (sc : Scope) (ts vs : List Expr) : Bool := !(!(ts.length == 2 || ts.length == 3) || vs.length != ts.length) && !((swNames sc ts).length != ts.length || (swNames sc ts).eraseDups.length != (swNames sc ts).length) && !vs.all (foldedForSure 8) && !vs.all (constantsAlone 8)
theorem swap_yes {ts vs : List Expr} {kt k2 : Nat} {pt pt2 : Pos} {env : Env} {sc : Scope} (hsc : env.scope = sc) (hk : sc.kind = .function) (hv : vs.all noStar = true) (hn : swYes sc ts vs = true) : swappedStores [.Tuple ts kt pt] (.Tuple vs k2 pt2) env = pure (some (swNames sc ts)) := by
  subst hsc
  have hb' : env.blockKind = .function := by unfold Env.blockKind; rw [hk]; rfl
  have hs := star_any hv
  simp only [swYes, Bool.and_eq_true, Bool.not_eq_true'] at hn
  obtain ⟨⟨⟨h1, h2⟩, h3⟩, h4⟩ := hn
  unfold swappedStores
  simp only [hb']
  split
  · rename_i h
    rw [h1] at h
    simp at h
  · split
    · rename_i h
      exfalso
      obtain ⟨e, he, h⟩ := List.any_eq_true.mp h
      have := List.all_eq_true.mp hv e he
      cases e <;> first | (cases h; done) | cases this
    · split
      · rename_i h
        have h : ((swNames env.scope ts).length != ts.length || (swNames env.scope ts).eraseDups.length != (swNames env.scope ts).length) = true := h
        rw [h2] at h; cases h
      · split
        · rename_i h; rw [h3] at h; cases h
        · split
          · rename_i h; rw [h4] at h; cases h
          · rfl
/-- a, b, c = x, y, z -/
def mPar3 (i j l : Nat) (ms : MA) : MS := fun F r M => (ms F r M).toS r fun ds M1 => match ds with
  | [u, v, w] => .ok (.next (((r.set i (some u)).set j (some v)).set l (some w))) M1
  | _ => .bad
theorem rels3 {K : Kb} {W : Wd} {d e f : D} {xs : List V} (h : DRels K W [d, e, f] xs) : ∃ v u w, xs = [v, u, w] ∧ DRel K W d v ∧ DRel K W e u ∧ DRel K W f w := by
  simp only [DRels] at h
  obtain ⟨v, r, rfl, h1, u, r', rfl, h2, w, r'', rfl, h3, rfl⟩ := h
  exact ⟨v, u, w, rfl, h1, h2, h3⟩
theorem ok_par3 (hq : C.calm = true) {i j l : Nat} {x y z : Str} {a b c : Expr} {ms : MA} {px py pz pt pos : Pos} {kt k2 pt2} (hi : C.N[i]? = some x) (hj : C.N[j]? = some y) (hl : C.N[l]? = some z) (hij : i ≠ j) (hil : i ≠ l) (hjl : j ≠ l)
    (hx : C.sc.names.lookup x = some .local) (hy : C.sc.names.lookup y = some .local) (hz : C.sc.names.lookup z = some .local) (ha : OkA T C [a, b, c] ms)
    (hw : ∀ env : Env, env.scope = C.sc → swappedStores [.Tuple [.Name x px, .Name y py, .Name z pz] kt pt] (.Tuple [a, b, c] k2 pt2) env = pure (some [x, y, z])) :
    OkS T C (.Assign [.Tuple [.Name x px, .Name y py, .Name z pz] kt pt] (.Tuple [a, b, c] k2 pt2) pos) (mPar3 i j l ms) := by
  intro n X wx h
  refine PS.of (ps_par3 (h.calm.trans hq) h.nd (by rw [h.N]; exact hi) (by rw [h.N]; exact hj) (by rw [h.N]; exact hl) hij hil hjl (by rw [h.sc]; exact hx) (by rw [h.sc]; exact hy) (by rw [h.sc]; exact hz) (ha n X wx h) (hw X.env h.sc) (by rfl)) fun Dn s H q => ?_
  obtain ⟨mu, M, r, mr, sr, sat⟩ := q
  refine ⟨mu, M, r, mr, sr, (Sat.toS sat sr).imp fun ds M1 W1 l1 m1 s1 vs dvs => ?_⟩
  split at s1
  · obtain ⟨v, u, w, rfl, d1, d2, d3⟩ := rels3 dvs
    exact ⟨v, u, w, rfl, s1.ok m1 _ ((((sr.le l1).set d1 i).set d2 j).set d3 l)⟩
  · exact s1.elim
end

/-! ### the certifying compile -/
section
variable (T : Tb)
instance visDec (sc : Scope) (x : Str) : Decidable (Vis sc x) := inferInstanceAs (Decidable (_ ∨ _ ∨ _))
abbrev RE (C : CC) (e : Expr) := Option { m : ME // OkE T C e m }
abbrev RT (C : CC) (e : Expr) := Option { m : MT // OkT T C e m }
def ixOf : (N : List Str) → (x : Str) → Option { i : Nat // N[i]? = some x }
  | [], _ => none
  | y :: ys, x => if h : y = x then some ⟨0, by simp [h]⟩ else match ixOf ys x with
    | some ⟨i, p⟩ => some ⟨i + 1, by simpa using p⟩
    | none => none
def fnIx : (fs : List Fn) → (x : Str) → Option { k : Nat // ∃ f, fs[k]? = some f ∧ f.name = x }
  | [], _ => none
  | f :: fs, x => if h : f.name = x then some ⟨0, f, rfl, h⟩ else match fnIx fs x with
    | some ⟨i, p⟩ => some ⟨i + 1, by simpa using p⟩
    | none => none
def locOf (C : CC) (x : Str) : Option (PLift (C.sc.names.lookup x = some .local ∨ (C.sc.names.lookup x = some .cell ∧ C.fn x = true))) :=
  if h : C.sc.names.lookup x = some .local then some ⟨.inl h⟩ else
    if h : C.sc.names.lookup x = some .cell ∧ C.fn x = true then some ⟨.inr h⟩ else none
def opOf (C : CC) : (op : Operator) → Option { f : D → D → Mem → Res D // ∀ n X wx, CxOk T n C X wx → OpR X (binaryOp op) (rB (kb X) f) }
  | .Add => some ⟨addD, fun _ _ _ _ => or_add⟩
  | .Sub => some ⟨subD, fun _ _ _ _ => or_sub⟩
  | .Mult => some ⟨mulT, fun _ _ _ _ => or_mulT⟩
  | .FloorDiv => some ⟨fdivD, fun _ _ _ _ => or_fdiv⟩
  | .Mod => some ⟨modD, fun _ _ _ _ => or_mod⟩
  | .Pow => some ⟨powD, fun _ _ _ _ => or_pow⟩
  | _ => none
def cmpOf (C : CC) : (op : CmpOp) → Option { f : D → D → Mem → Res D // ∀ n X wx, CxOk T n C X wx → OpR X (compareOp op) (rB (kb X) f) }
  | .Eq => some ⟨eqD false, fun _ _ _ h => or_eq (by have := h.un; omega)⟩
  | .NotEq => some ⟨eqD true, fun _ _ _ h => or_ne (by have := h.un; omega)⟩
  | .Lt => some ⟨ltD, fun _ _ _ h => or_lt (by have := h.un; omega)⟩
  | .LtE => some ⟨leD, fun _ _ _ h => or_le (by have := h.un; omega)⟩
  | .Gt => some ⟨gtD, fun _ _ _ h => or_gt (by have := h.un; omega)⟩
  | .GtE => some ⟨geD, fun _ _ _ h => or_ge (by have := h.un; omega)⟩
  | .Is => some ⟨isD false, fun _ _ _ _ => or_is⟩
  | .IsNot => some ⟨isD true, fun _ _ _ _ => or_isnot⟩
  | .In => some ⟨inD false, fun _ _ _ h => or_in (by have := h.un; omega)⟩
  | .NotIn => some ⟨inD true, fun _ _ _ h => or_notin (by have := h.un; omega)⟩
def tyOf (y : Str) : Option { t : Ty // y = (t.nm : Str) ∧ bootBuiltins y = some (.type t.nm) } :=
  if h : y = "int" then some ⟨.int, h, by rw [h]; exact boot_int⟩
  else if h : y = "bool" then some ⟨.bool, h, by rw [h]; exact boot_bool⟩
  else if h : y = "str" then some ⟨.str, h, by rw [h]; exact boot_str⟩
  else if h : y = "tuple" then some ⟨.tuple, h, by rw [h]; exact boot_tuple⟩
  else if h : y = "list" then some ⟨.list, h, by rw [h]; exact boot_list⟩
  else if h : y = "dict" then some ⟨.dict, h, by rw [h]; exact boot_dict⟩
  else none
def ownOf (N : List Str) (scope : Scope) : List (Str × Nat) := scope.names.filterMap fun (n, k) => if (k == .local || k == .cell) then (match ixOf N n with | some ⟨i, _⟩ => some (n, i) | none => none) else none
mutual
def cE : Nat → (C : CC) → (e : Expr) → RE T C e
  | 0, _, _ => none
  | n + 1, C, e => match e with
    | .Constant (.int i) j pos => some ⟨mC (.int i), ok_int⟩
    | .Constant (.bool i) j pos => some ⟨mC (.bl i), ok_bl⟩
    | .Constant .none j pos => some ⟨mC .non, ok_non⟩
    | .Constant (.str x) j pos => some ⟨mC (.str x.cps.toList), ok_str⟩
    | .Name x pos =>
      if hg : C.sc.names.lookup x = some .globalImplicit then
        match hc : T.con.lookup x with
        | some d => if hd : (x == ("__debug__" : Str)) = false then some ⟨mC d, ok_con hc hg hd⟩ else none
        | none => none
      else if hv : Vis C.sc x ∧ (x == ("__debug__" : Str)) = false ∧ (x == ("__classdict__" : Str)) = false then
        match ixOf C.N x with
        | some ⟨i, hi⟩ => some ⟨mVar i, ok_var hi hv.1 hv.2.1 hv.2.2⟩
        | none => none
      else none
    | .Tuple es k pos => match cAs n C es with
      | some ⟨ms, h⟩ => some ⟨mTup ms, ok_tup h⟩
      | none => none
    | .List es pos => match cAs n C es with
      | some ⟨ms, h⟩ => if C.mt.contains (pos.line, pos.col) then some ⟨mLstM ms, ok_lstM h⟩ else some ⟨mLst ms, ok_lst h⟩
      | none => none
    | .Dict [] [] pos => some ⟨mDct0, ok_dct0⟩
    | .Dict [some a] [b] pos => match cE n C a, cE n C b with
      | some ⟨ma, ha⟩, some ⟨mb, hb⟩ => some ⟨mDct1 ma mb, ok_dct1 ha hb⟩
      | _, _ => none
    | .BinOp (.List es p) .Mult b pos => match cA n C es, cE n C b with
      | some ⟨ms, h, _⟩, some ⟨mb, hb⟩ => some ⟨mLMul ms mb, ok_lmul h hb⟩
      | _, _ => none
    | .BinOp a op b pos => match opOf T C op, cE n C a, cE n C b with
      | some ⟨f, hf⟩, some ⟨ma, ha⟩, some ⟨mb, hb⟩ => some ⟨mB f ma mb, ok_bin hf ha hb⟩
      | _, _, _ => none
    | .Compare a [op] [b] pos => match cmpOf T C op, cE n C a, cE n C b with
      | some ⟨f, hf⟩, some ⟨ma, ha⟩, some ⟨mb, hb⟩ => if hm : behindInMarks op b = false then some ⟨mB f ma mb, ok_cmp hf ha hb hm⟩ else none
      | _, _, _ => none
    | .Compare a [op, op'] [b, c] pos => match cmpOf T C op, cmpOf T C op', cE n C a, cE n C b, cE n C c with
      | some ⟨f, hf⟩, some ⟨g, hg⟩, some ⟨ma, ha⟩, some ⟨mb, hb⟩, some ⟨mc, hc⟩ => if hm : lastMarks [op, op'] [b, c] = false then some ⟨mChain f g ma mb mc, ok_chain hf hg ha hb hc hm⟩ else none
      | _, _, _, _, _ => none
    | .BoolOp op [a] pos => match cE n C a with
      | some ⟨m, h⟩ => some ⟨m, ok_one h⟩
      | none => none
    | .BoolOp .And (a :: b :: r) pos => match cE n C a, cE n C (.BoolOp .And (b :: r) pos) with
      | some ⟨m, h⟩, some ⟨m', h'⟩ => some ⟨mAndV m m', ok_andV h h'⟩
      | _, _ => none
    | .BoolOp .Or (a :: b :: r) pos => match cE n C a, cE n C (.BoolOp .Or (b :: r) pos) with
      | some ⟨m, h⟩, some ⟨m', h'⟩ => some ⟨mOrV m m', ok_orV h h'⟩
      | _, _ => none
    | .UnaryOp .Not a pos => match cE n C a with
      | some ⟨m, h⟩ => some ⟨mNotV m, ok_notV h⟩
      | none => none
    | .UnaryOp .USub a pos => match cE n C a with
      | some ⟨m, h⟩ => some ⟨mNeg m, ok_neg h⟩
      | none => none
    | .IfExp c a b pos => match cT n C c, cE n C a, cE n C b with
      | some ⟨mc, hc⟩, some ⟨ma, ha⟩, some ⟨mb, hb⟩ => some ⟨mIf mc ma mb, ok_if hc ha hb⟩
      | _, _, _ => none
    | .Subscript a (.Slice lo hi none p2) pos => match cE n C a, cO n C lo, cO n C hi with
      | some ⟨m, h⟩, some ⟨ml, hl⟩, some ⟨mh, hh⟩ => some ⟨mSl m ml mh, ok_slice h hl hh⟩
      | _, _, _ => none
    | .Subscript a b pos => match cE n C a, cE n C b with
      | some ⟨ma, ha⟩, some ⟨mb, hb⟩ => if hs : noSlice b = true then some ⟨mB ixD ma mb, ok_ix hs ha hb⟩ else none
      | _, _ => none
    | .Call (.Name x p) [] [] pos =>
      if hg : C.sc.names.lookup x = some .globalImplicit ∧ (x == ("__debug__" : Str)) = false then
        match fnIx T.fns x with
        | some ⟨k, hk⟩ => if hq : C.calm = true then some ⟨mCall k mNil, by obtain ⟨f, h1, h2⟩ := hk; exact ok_call0 hq h1 h2 hg.1 hg.2⟩ else none
        | none => none
      else none
    | .Call (.Name x p) [a, .Name y p2] [] pos =>
      if hx : x = "isinstance" ∧ x ∈ T.blt ∧ C.sc.names.lookup x = some .globalImplicit ∧ y ∈ T.blt ∧ C.sc.names.lookup y = some .globalImplicit ∧ y ≠ "__name__" ∧ (y == ("__debug__" : Str)) = false ∧ noStar a = true then
        match tyOf y, cE n C a with
        | some ⟨t, ht⟩, some ⟨m, h⟩ => some ⟨mIsi t m, ok_isi hx.2.1 hx.1 hx.2.2.1 hx.2.2.2.1 ht.1 ht.2 hx.2.2.2.2.1 hx.2.2.2.2.2.1 hx.2.2.2.2.2.2.1 hx.2.2.2.2.2.2.2 h⟩
        | _, _ => none
      else cCall n C x p a [.Name y p2] pos
    | .Call (.Name x p) (a :: es) [] pos => cCall n C x p a es pos
    | .Call (.Attribute o name apos) [a] [] cpos =>
      if h : name = "append" ∧ noSuper o = true ∧ (apos.endLine == cpos.line) = true ∧ noStar a = true then
        match cE n C o, cE n C a with
        | some ⟨mo, ho⟩, some ⟨ma, ha⟩ => some ⟨mApp mo ma, ok_append h.1 h.2.1 h.2.2.1 h.2.2.2 ho ha⟩
        | _, _ => none
      else none
    | .Call (.Attribute o name apos) [a, b] [] cpos =>
      if h : name = "get" ∧ noSup o = true ∧ (apos.endLine == cpos.line) = true ∧ noStar a = true ∧ noStar b = true then
        match cE n C o, cE n C a, cE n C b with
        | some ⟨mo, ho⟩, some ⟨ma, ha⟩, some ⟨mb, hb⟩ => some ⟨mGet2 mo ma mb, ok_get2 h.1 h.2.1 h.2.2.1 h.2.2.2.1 h.2.2.2.2 ho ha hb⟩
        | _, _, _ => none
      else none
    | .ListComp elt [⟨tg, iter, ifs, 0⟩] scope pos =>
      if h : noSet iter = true ∧ blkC C.N C.sc scope (ownOf C.N scope) = true ∧ C.calm = true then
        match cI n C tg iter, cGc n (C.blk scope) ((ownOf C.N scope).map (·.2)) tg, cTs n (C.blk scope) ifs, cE n (C.blk scope) elt with
        | some ⟨mi, hi⟩, some ⟨g, hg⟩, some ⟨mt, ht⟩, some ⟨me, he⟩ => some ⟨mLc mi g mt me ((ownOf C.N scope).map (·.2)), ok_lc h.2.2 rfl h.1 h.2.1 hi hg ht he⟩
        | _, _, _, _ => none
      else none
    | _ => none
def cCall : Nat → (C : CC) → (x : Str) → (p : Pos) → (a : Expr) → (es : List Expr) → (pos : Pos) → RE T C (.Call (.Name x p) (a :: es) [] pos)
  | 0, _, _, _, _, _, _ => none
  | n + 1, C, x, p, a, es, pos =>
    if hg : C.sc.names.lookup x = some .globalImplicit ∧ (x == ("__debug__" : Str)) = false ∧ x ≠ "__name__" then
      match cA n C (a :: es) with
      | none => none
      | some ⟨ms, hm, hs⟩ =>
        match fnIx T.fns x with
        | some ⟨k, hk⟩ => if hq : C.calm = true then some ⟨mCall k ms, by obtain ⟨f, h1, h2⟩ := hk; exact ok_call hq h1 h2 hg.1 hg.2.1 hs hm⟩ else none
        | none =>
          if hb : x ∈ T.blt then
            if h : x = "len" then some ⟨mBl lenD ms, ok_blt (id := "len") (fun _ _ _ _ => cr_len) hb hg.1 (by rw [h]; exact PySem.boot_len) hg.2.2 hg.2.1 hs hm⟩
            else if h : x = "int" then some ⟨mBl toIntD ms, ok_bty (id := "int") (fun _ _ _ _ => cr_int) hb hg.1 (by rw [h]; exact boot_int) hg.2.2 hg.2.1 hs hm⟩
            else if h : x = "tuple" then some ⟨mBl toTupD ms, ok_bty (id := "tuple") (fun _ _ _ _ => cr_tuple) hb hg.1 (by rw [h]; exact boot_tuple) hg.2.2 hg.2.1 hs hm⟩
            else if h : x = "list" then some ⟨mBl (toLstD (C.mt.contains (pos.line, pos.col))) ms, ok_bty (id := "list") (fun _ _ _ _ => cr_list) hb hg.1 (by rw [h]; exact boot_list) hg.2.2 hg.2.1 hs hm⟩
            else if h : x = "max" ∧ C.calm = true then some ⟨mBl maxLD ms, ok_blt (id := "max") (fun _ _ _ q => cr_maxL (q.calm.trans h.2) (by have := q.un; omega)) hb hg.1 (by rw [h.1]; exact boot_max) hg.2.2 hg.2.1 hs hm⟩
            else if h : x = "min" ∧ C.calm = true then some ⟨mBl minLD ms, ok_blt (id := "min") (fun _ _ _ q => cr_minL (q.calm.trans h.2) (by have := q.un; omega)) hb hg.1 (by rw [h.1]; exact boot_min) hg.2.2 hg.2.1 hs hm⟩
            else if h : x = "all" ∧ C.calm = true then some ⟨mBl allD ms, ok_blt (id := "all") (fun _ _ _ q => cr_allD (q.calm.trans h.2)) hb hg.1 (by rw [h.1]; exact boot_all) hg.2.2 hg.2.1 hs hm⟩
            else if h : x = "any" ∧ C.calm = true then some ⟨mBl anyD ms, ok_blt (id := "any") (fun _ _ _ q => cr_anyD (q.calm.trans h.2)) hb hg.1 (by rw [h.1]; exact boot_any) hg.2.2 hg.2.1 hs hm⟩
            else if h : x = "sum" ∧ C.calm = true then some ⟨mBl sumD ms, ok_blt (id := "sum") (fun _ _ _ q => cr_sumD (q.calm.trans h.2)) hb hg.1 (by rw [h.1]; exact boot_sum) hg.2.2 hg.2.1 hs hm⟩
            else if h : x = "sorted" then some ⟨mBl srtD ms, ok_blt (id := "sorted") (fun _ _ _ q => cr_sortedL (by have := q.un; omega)) hb hg.1 (by rw [h]; exact boot_sorted) hg.2.2 hg.2.1 hs hm⟩
            else if h : x = "str" then some ⟨mBl toStrD ms, ok_bty (id := "str") (fun _ _ _ _ => cr_str) hb hg.1 (by rw [h]; exact boot_str) hg.2.2 hg.2.1 hs hm⟩
            else none
          else none
    else none
def cA : Nat → (C : CC) → (es : List Expr) → Option { m : MA // OkA T C es m ∧ es.all noStar = true }
  | 0, _, _ => none
  | n + 1, C, es => match es with
    | [] => some ⟨mNil, ok_anil, rfl⟩
    | e :: r => match cE n C e, cA n C r with
      | some ⟨m, h⟩, some ⟨ms, hm, hs⟩ => if hn : noStar e = true then some ⟨mCons m ms, ok_acons hn h hm, by rw [List.all_cons, hn, hs]; rfl⟩ else none
      | _, _ => none
def cAs : Nat → (C : CC) → (es : List Expr) → Option { m : MA // OkA T C es m }
  | 0, _, _ => none
  | n + 1, C, es => match es with
    | [] => some ⟨mNil, ok_anil⟩
    | .Starred e p :: r => match cE n C e, cAs n C r with
      | some ⟨m, h⟩, some ⟨ms, hm⟩ => some ⟨mStar m ms, ok_astar h hm⟩
      | _, _ => none
    | e :: r => match cE n C e, cAs n C r with
      | some ⟨m, h⟩, some ⟨ms, hm⟩ => if hn : noStar e = true then some ⟨mCons m ms, ok_acons hn h hm⟩ else none
      | _, _ => none
def cO : Nat → (C : CC) → (e : Option Expr) → Option { m : MO' // OkO T C e m }
  | 0, _, _ => none
  | n + 1, C, e => match e with
    | none => some ⟨mNoPart, ok_nopart⟩
    | some e => match cE n C e with
      | some ⟨m, h⟩ => some ⟨mPart m, ok_part h⟩
      | none => none
def cT : Nat → (C : CC) → (e : Expr) → RT T C e
  | 0, _, _ => none
  | n + 1, C, e => match e with
    | .Compare a [op] [b] pos => match cmpOf T C op, cE n C a, cE n C b with
      | some ⟨f, hf⟩, some ⟨ma, ha⟩, some ⟨mb, hb⟩ => if hm : behindInMarks op b = false then some ⟨mTB (mB f ma mb), ok_tcmp hf ha hb hm⟩ else none
      | _, _, _ => none
    | .Compare a [op, op'] [b, c] pos => match cmpOf T C op, cmpOf T C op', cE n C a, cE n C b, cE n C c with
      | some ⟨f, hf⟩, some ⟨g, hg⟩, some ⟨ma, ha⟩, some ⟨mb, hb⟩, some ⟨mc, hc⟩ => if hm : lastMarks [op, op'] [b, c] = false then some ⟨mTB (mChain f g ma mb mc), ok_tchain hf hg ha hb hc hm⟩ else none
      | _, _, _, _, _ => none
    | .BoolOp op vs pos => match cW n C (.BoolOp op vs pos) with
      | some ⟨m, h⟩ => some ⟨m, ok_wt h⟩
      | none => none
    | .UnaryOp .Not a pos => match cT n C a with
      | some ⟨m, h⟩ => some ⟨mNot m, ok_tnot h⟩
      | none => none
    | e => if hp : plainTest e = true then (match cE n C e with
        | some ⟨m, h⟩ => some ⟨mTru m, ok_tru hp h⟩
        | none => none) else none
def cW : Nat → (C : CC) → (e : Expr) → Option { m : MT // OkW T C e m }
  | 0, _, _ => none
  | n + 1, C, e => match e with
    | .BoolOp .And [a] pos => match cT n C a with
      | some ⟨m, h⟩ => some ⟨m, ok_and1 h⟩
      | none => none
    | .BoolOp .Or [a] pos => match cT n C a with
      | some ⟨m, h⟩ => some ⟨m, ok_or1 h⟩
      | none => none
    | .BoolOp .And (a :: b :: r) pos => match cT n C a, cW n C (.BoolOp .And (b :: r) pos) with
      | some ⟨m, h⟩, some ⟨m', h'⟩ => some ⟨mAnd m m', ok_and h h'⟩
      | _, _ => none
    | .BoolOp .Or (a :: b :: r) pos => match cT n C a, cW n C (.BoolOp .Or (b :: r) pos) with
      | some ⟨m, h⟩, some ⟨m', h'⟩ => some ⟨mOr m m', ok_or h h'⟩
      | _, _ => none
    | _ => none
def cTs : Nat → (C : CC) → (es : List Expr) → Option { m : MT // OkTs T C es m }
  | 0, _, _ => none
  | n + 1, C, es => match es with
    | [] => some ⟨mYes, ok_tsnil⟩
    | [e] => match cT n C e with
      | some ⟨m, h⟩ => some ⟨m, ok_tsone h⟩
      | none => none
    | _ => none
def cI : Nat → (C : CC) → (tg e : Expr) → Option { m : MI // OkI T C tg e m }
  | 0, _, _, _ => none
  | n + 1, C, tg, e => match tg, e with
    | .Tuple elts kk tpos, .Call (.Name x p) [a] [] pos =>
      if h : x = "enumerate" ∧ x ∈ T.blt ∧ C.sc.names.lookup x = some .globalImplicit ∧ noStar a = true then
        match cA n C [a] with
        | some ⟨ms, hm, _⟩ => some ⟨mEnum ms, ok_ienum h.1 h.2.1 h.2.2.1 h.2.2.2 hm⟩
        | none => none
      else match cE n C (.Call (.Name x p) [a] [] pos) with
        | some ⟨m, h⟩ => some ⟨mSeqI m, ok_iseq h⟩
        | none => none
    | .Tuple elts kk tpos, .Call (.Name x p) [a, b] [] pos =>
      if h : x = "zip" ∧ x ∈ T.blt ∧ C.sc.names.lookup x = some .globalImplicit ∧ noStar a = true ∧ noStar b = true then
        match cA n C [a, b] with
        | some ⟨ms, hm, _⟩ => some ⟨mZip ms, ok_izip h.1 h.2.1 h.2.2.1 h.2.2.2.1 h.2.2.2.2 hm⟩
        | none => none
      else match cE n C (.Call (.Name x p) [a, b] [] pos) with
        | some ⟨m, h⟩ => some ⟨mSeqI m, ok_iseq h⟩
        | none => none
    | .Tuple elts kk tpos, .Call (.Attribute l name apos) [] [] cpos =>
      if h : name = "items" ∧ noSup l = true ∧ (apos.endLine == cpos.line) = true then
        match cE n C l with
        | some ⟨m, hm⟩ => some ⟨mDictI pairsD m, ok_iitems h.1 h.2.1 h.2.2 hm⟩
        | none => none
      else if h : name = "values" ∧ noSup l = true ∧ (apos.endLine == cpos.line) = true then
        match cE n C l with
        | some ⟨m, hm⟩ => some ⟨mDictI (fun l => l.map (·.2)) m, ok_ivalues h.1 h.2.1 h.2.2 hm⟩
        | none => none
      else none
    | tg, .Call (.Attribute l name apos) [] [] cpos =>
      if h : name = "values" ∧ noSup l = true ∧ (apos.endLine == cpos.line) = true then
        match cE n C l with
        | some ⟨m, hm⟩ => some ⟨mDictI (fun l => l.map (·.2)) m, ok_ivalues h.1 h.2.1 h.2.2 hm⟩
        | none => none
      else none
    | tg, .Call (.Name x p) [a] [] pos =>
      if h : x = "range" ∧ x ∈ T.blt ∧ C.sc.names.lookup x = some .globalImplicit ∧ noStar a = true then
        match cA n C [a] with
        | some ⟨ms, hm, _⟩ => some ⟨mRng1 ms, ok_irng1 h.1 h.2.1 h.2.2.1 h.2.2.2 hm⟩
        | none => none
      else match cE n C (.Call (.Name x p) [a] [] pos) with
        | some ⟨m, h⟩ => some ⟨mSeqI m, ok_iseq h⟩
        | none => none
    | tg, .Call (.Name x p) [a, b] [] pos =>
      if h : x = "range" ∧ x ∈ T.blt ∧ C.sc.names.lookup x = some .globalImplicit ∧ noStar a = true ∧ noStar b = true then
        match cA n C [a, b] with
        | some ⟨ms, hm, _⟩ => some ⟨mRng2 ms, ok_irng2 h.1 h.2.1 h.2.2.1 h.2.2.2.1 h.2.2.2.2 hm⟩
        | none => none
      else match cE n C (.Call (.Name x p) [a, b] [] pos) with
        | some ⟨m, h⟩ => some ⟨mSeqI m, ok_iseq h⟩
        | none => none
    | tg, .Name x pos => match cE n C (.Name x pos) with
      | some ⟨m, h⟩ => if C.mt.contains (pos.line, pos.col) then some ⟨mSeqK m, ok_iseqK h⟩ else some ⟨mSeqI m, ok_iseq h⟩
      | none => none
    | tg, e => match cE n C e with
      | some ⟨m, h⟩ => some ⟨mSeqI m, ok_iseq h⟩
      | none => none
def cGc : Nat → (C : CC) → (vs : List Nat) → (e : Expr) → Option { m : MG // OkGc T C vs e m }
  | 0, _, _, _ => none
  | n + 1, C, vs, e => match e with
    | .Name x pos => match ixOf C.N x, locOf C x with
      | some ⟨i, hi⟩, some ⟨hl⟩ => if hv : i ∈ vs then some ⟨gN i, ok_gcname hv hi hl⟩ else none
      | _, _ => none
    | .Tuple es k pos => match cGsc n C vs es with
      | some ⟨gs, h, hs⟩ => if hq : C.calm = true then some ⟨gTp es.length gs, ok_gctup hq hs rfl h⟩ else none
      | none => none
    | _ => none
def cGsc : Nat → (C : CC) → (vs : List Nat) → (es : List Expr) → Option { m : MGs // OkGsc T C vs es m ∧ es.all noStarT = true }
  | 0, _, _, _ => none
  | n + 1, C, vs, es => match es with
    | [] => some ⟨gsNil, ok_gscnil, rfl⟩
    | e :: r => match cGc n C vs e, cGsc n C vs r with
      | some ⟨g, h⟩, some ⟨gs, hg, ha⟩ => if hs : noStarT e = true then some ⟨gsCons g gs, ok_gsccons hs h hg, by rw [List.all_cons, hs, ha]; rfl⟩ else none
      | _, _ => none
end
mutual
def cG : Nat → (C : CC) → (e : Expr) → Option { m : MG // OkG T C e m }
  | 0, _, _ => none
  | n + 1, C, e => match e with
    | .Name x pos => match ixOf C.N x, locOf C x with
      | some ⟨i, hi⟩, some ⟨hl⟩ => some ⟨gN i, ok_gname hi hl⟩
      | _, _ => none
    | .Tuple es k pos => match cGs n C es with
      | some ⟨gs, h, hs⟩ => if hq : C.calm = true then some ⟨gTp es.length gs, ok_gtup hq hs rfl h⟩ else none
      | none => none
    | .Subscript o i pos => match cE T n C o, cE T n C i with
      | some ⟨mo, ho⟩, some ⟨mi, hi⟩ => if hs : noSlice i = true then some ⟨gSb mo mi, ok_gsub hs ho hi⟩ else none
      | _, _ => none
    | _ => none
def cGs : Nat → (C : CC) → (es : List Expr) → Option { m : MGs // OkGs T C es m ∧ es.all noStarT = true }
  | 0, _, _ => none
  | n + 1, C, es => match es with
    | [] => some ⟨gsNil, ok_gsnil, rfl⟩
    | e :: r => match cG n C e, cGs n C r with
      | some ⟨g, h⟩, some ⟨gs, hg, ha⟩ => if hs : noStarT e = true then some ⟨gsCons g gs, ok_gscons hs h hg, by rw [List.all_cons, hs, ha]; rfl⟩ else none
      | _, _ => none
end
def isTup : Expr → Bool
  | .Tuple .. => false
  | _ => true
theorem isTup_swap {tg e : Expr} {env : Env} (h : isTup e = true) : swappedStores [tg] e env = pure none := by
  cases e <;> first | (cases tg <;> rfl) | cases h
mutual
def cS : Nat → (C : CC) → (st : Stmt) → Option { m : MS // OkS T C st m }
  | 0, _, _ => none
  | n + 1, C, st => match st with
    | .Pass pos => some ⟨mSkip, ok_pass⟩
    | .Break pos => some ⟨mBreak, ok_break⟩
    | .Continue pos => some ⟨mCont, ok_cont⟩
    | .Raise (some (.Call (.Name x p) [] [] p1)) none p2 =>
      if h : C.calm = true ∧ x ∈ T.exs ∧ C.sc.names.lookup x = some .globalImplicit ∧ (x == ("__debug__" : Str)) = false then some ⟨mRse x, ok_raise h.1 h.2.1 h.2.2.1 h.2.2.2⟩ else some ⟨mNever, ok_never⟩
    | .Raise a b pos => some ⟨mNever, ok_never⟩
    | .Try body (h0 :: hds) [] [] pos => match cSs n C body, cH n C (h0 :: hds) with
      | some ⟨mb, hb⟩, some ⟨hs, hh⟩ => if h : C.calm = true ∧ C.top = true ∧ (∀ p ∈ hs.map (·.1), p ∈ T.exm.map (fun q => q.2.1)) then some ⟨mTry T.exm mb hs, ok_try h.1 h.2.1 hb hh (fun p hp => by
          have := h.2.2 p.1 (List.mem_map.mpr ⟨p, hp, rfl⟩)
          obtain ⟨q, h1, h2⟩ := List.mem_map.mp this
          exact ⟨q, h1, h2⟩)⟩ else none
      | _, _ => none
    | .Return none pos => some ⟨mRetN, ok_retN⟩
    | .Return (some e) pos => match cE T n C e with
      | some ⟨m, h⟩ => some ⟨mRet m, ok_ret h⟩
      | none => none
    | .Expr e pos => match cE T n C e with
      | some ⟨m, h⟩ => if hn : noComp e = true then some ⟨mDrop m, ok_expr hn h⟩ else none
      | none => none
    | .If c a b pos => match cT T n C c, cSs n C a, cSs n C b with
      | some ⟨mc, hc⟩, some ⟨ma, ha⟩, some ⟨mb, hb⟩ => some ⟨mIfS mc ma mb, ok_ifS hc ha hb⟩
      | _, _, _ => none
    | .While c b [] pos => match cT T n C c, cSs n C b with
      | some ⟨mc, hc⟩, some ⟨mb, hb⟩ => some ⟨mWhl mc mb, ok_while hc hb⟩
      | _, _ => none
    | .For tg iter b [] pos => match cI T n C tg iter, cG T n C tg, cSs n C b with
      | some ⟨mi, hi⟩, some ⟨g, hg⟩, some ⟨mb, hb⟩ => if hs : noSet iter = true ∧ C.calm = true then some ⟨mFor mi g mb, ok_for hs.2 hs.1 hi hg hb⟩ else none
      | _, _, _ => none
    | .AugAssign (.Name x p) .Add e pos => match ixOf C.N x, locOf C x, cE T n C e with
      | some ⟨i, hi⟩, some ⟨hl⟩, some ⟨m, h⟩ => some ⟨mAug i (intD (fun _ _ => true) fun i j => .int (i + j)) m, ok_aug hi hl (fun _ _ _ _ => or_iadd) h⟩
      | _, _, _ => none
    | .AugAssign (.Name x p) .Sub e pos => match ixOf C.N x, locOf C x, cE T n C e with
      | some ⟨i, hi⟩, some ⟨hl⟩, some ⟨m, h⟩ => some ⟨mAug i (intD (fun _ _ => true) fun i j => .int (i - j)) m, ok_aug hi hl (fun _ _ _ _ => or_isub) h⟩
      | _, _, _ => none
    | .Assign [.Name y py] (.ListComp elt [⟨tg, iter, ifs, 0⟩] scope pos) spos =>
      if h : (noSet iter = true ∧ blkC C.N C.sc scope (ownOf C.N scope) = true ∧ C.calm = true) ∧ C.sc.names.lookup y = some .local ∧ (py.line == pos.line) = true ∧ (scope.names.any fun (n, k) => n == y && (k == .local || k == .cell)) = false then
        match ixOf C.N y, cI T n C tg iter, cGc T n (C.blk scope) ((ownOf C.N scope).map (·.2)) tg, cTs T n (C.blk scope) ifs, cE T n (C.blk scope) elt with
        | some ⟨i, hi'⟩, some ⟨mi, hi⟩, some ⟨g, hg⟩, some ⟨mt, ht⟩, some ⟨me, he⟩ => some ⟨mAsg (mLc mi g mt me ((ownOf C.N scope).map (·.2))) (gN i), ok_setlc h.1.2.2 rfl h.1.1 h.1.2.1 hi' h.2.1 h.2.2.1 h.2.2.2 hi hg ht he⟩
        | _, _, _, _, _ => none
      else none
    | .Assign [.Name x p] e pos => match ixOf C.N x, locOf C x, cE T n C e with
      | some ⟨i, hi⟩, some ⟨hl⟩, some ⟨m, h⟩ => if hn : noComp e = true then some ⟨mAsg m (gN i), ok_set hn hi hl h⟩ else none
      | _, _, _ => none
    | .Assign [.Subscript o i p] e pos => match cE T n C e, cG T n C (.Subscript o i p) with
      | some ⟨m, h⟩, some ⟨g, hg⟩ => if hn : noComp e = true then some ⟨mAsg m g, ok_asg hn (fun env _ => swap_none_sub) rfl h hg⟩ else none
      | _, _ => none
    | .Assign [.Tuple [.Name x px, .Name y py] kt pt] (.Tuple [a, b] k2 pt2) pos =>
      match ixOf C.N x, ixOf C.N y, cA T n C [a, b] with
      | some ⟨i, hi⟩, some ⟨j, hj⟩, some ⟨ms, hm, hs⟩ =>
        if h : (i ≠ j ∧ C.calm = true) ∧ C.sc.kind = .function ∧ C.sc.names.lookup x = some .local ∧ C.sc.names.lookup y = some .local ∧ swYes C.sc [.Name x px, .Name y py] [a, b] = true ∧ swNames C.sc [.Name x px, .Name y py] = [x, y] then
          some ⟨mPar i j ms, ok_par h.1.2 hi hj h.1.1 h.2.2.1 h.2.2.2.1 hm fun env he => (swap_yes he h.2.1 hs h.2.2.2.2.1).trans (by rw [h.2.2.2.2.2])⟩
        else if h : C.sc.kind = .function ∧ swNone C.sc [.Name x px, .Name y py] [a, b] = true then
          match cG T n C (.Tuple [.Name x px, .Name y py] kt pt) with
          | some ⟨g, hg⟩ => some ⟨mAsg (mTup ms) g, ok_asg rfl (fun env he => swap_of he h.1 hs h.2) rfl (ok_tup hm) hg⟩
          | none => none
        else none
      | _, _, _ => none
    | .Assign [.Tuple [.Name x px, .Name y py, .Name z pz] kt pt] (.Tuple [a, b, c] k2 pt2) pos =>
      match ixOf C.N x, ixOf C.N y, ixOf C.N z, cA T n C [a, b, c] with
      | some ⟨i, hi⟩, some ⟨j, hj⟩, some ⟨l, hl⟩, some ⟨ms, hm, hs⟩ =>
        if h : (((i ≠ j ∧ i ≠ l) ∧ j ≠ l) ∧ C.calm = true) ∧ C.sc.kind = .function ∧ (C.sc.names.lookup x = some .local ∧ C.sc.names.lookup y = some .local ∧ C.sc.names.lookup z = some .local) ∧ swYes C.sc [.Name x px, .Name y py, .Name z pz] [a, b, c] = true ∧ swNames C.sc [.Name x px, .Name y py, .Name z pz] = [x, y, z] then
          some ⟨mPar3 i j l ms, ok_par3 h.1.2 hi hj hl h.1.1.1.1 h.1.1.1.2 h.1.1.2 h.2.2.1.1 h.2.2.1.2.1 h.2.2.1.2.2 hm fun env he => (swap_yes he h.2.1 hs h.2.2.2.1).trans (by rw [h.2.2.2.2])⟩
        else if h : C.sc.kind = .function ∧ swNone C.sc [.Name x px, .Name y py, .Name z pz] [a, b, c] = true then
          match cG T n C (.Tuple [.Name x px, .Name y py, .Name z pz] kt pt) with
          | some ⟨g, hg⟩ => some ⟨mAsg (mTup ms) g, ok_asg rfl (fun env he => swap_of he h.1 hs h.2) rfl (ok_tup hm) hg⟩
          | none => none
        else none
      | _, _, _, _ => none
    | .Assign [.Tuple ts kt pt] (.Tuple vs k2 pt2) pos => match cA T n C vs, cG T n C (.Tuple ts kt pt) with
      | some ⟨ms, hm, hs⟩, some ⟨g, hg⟩ => if h : C.sc.kind = .function ∧ swNone C.sc ts vs = true then some ⟨mAsg (mTup ms) g, ok_asg rfl (fun env he => swap_of he h.1 hs h.2) rfl (ok_tup hm) hg⟩ else none
      | _, _ => none
    | .Assign [.Tuple es kt pt] e pos => match cE T n C e, cG T n C (.Tuple es kt pt) with
      | some ⟨m, h⟩, some ⟨g, hg⟩ => if hn : noComp e = true ∧ isTup e = true then some ⟨mAsg m g, ok_asg hn.1 (fun env _ => isTup_swap hn.2) rfl h hg⟩ else none
      | _, _ => none
    | _ => none
def cSs : Nat → (C : CC) → (sts : List Stmt) → Option { m : MS // OkSs T C sts m }
  | 0, _, _ => none
  | n + 1, C, sts => match sts with
    | [] => some ⟨mSkip, ok_snil⟩
    | [s] => match cS n C s with
      | some ⟨m, h⟩ => some ⟨m, ok_sone h⟩
      | none => none
    | s :: r => match cS n C s, cSs n C r with
      | some ⟨m, h⟩, some ⟨m', h'⟩ => some ⟨mSeq m m', ok_scons h h'⟩
      | _, _ => none
def cH : Nat → (C : CC) → (hds : List ExceptHandler) → Option { hs : List (Str × MS) // OkH T C hds hs }
  | 0, _, _ => none
  | n + 1, C, hds => match hds with
    | [] => some ⟨[], .nil⟩
    | .ExceptHandler (some (.Name a np)) none (b0 :: suite) pos :: r => match cSs n C.suite (b0 :: suite), cH n C r with
      | some ⟨ms, hm⟩, some ⟨hs, hh⟩ => if h : C.sc.names.lookup a = some .globalImplicit ∧ (a == ("__debug__" : Str)) = false then some ⟨(a, ms) :: hs, .cons h.1 h.2 hm hh⟩ else none
      | _, _ => none
    | _ => none
end
theorem cSs_ok {n : Nat} {C : CC} {sts : List Stmt} {m : MS} (h : (cSs T n C sts).map Subtype.val = some m) : OkSs T C sts m := by
  cases e : cSs T n C sts with
  | none => rw [e] at h; cases h
  | some x =>
    rw [e] at h
    cases h
    exact x.2
end
end RI

namespace RI
open PySem PySem.Spec PyProof.Rows L2
theorem ints_rel {K : Kb} {W : Wd} : ∀ ns : List Int, DRels K W (ns.map D.int) (ns.map V.int)
  | [] => rfl
  | n :: ns => ⟨.int n, _, rfl, rfl, ints_rel ns⟩
theorem sp_law {T : Tb} {K : Kb} {n k : Nat} {x : Str} {H : Hp} {a : Addr} {ns : List Int} {E : XK} (hS : SqL K.K H a (ns.map V.int)) (hc : ∃ M', callF T n k [.lst (ns.map .int)] [] = .ok (.bl true) M') : spF T K [x] n k [.ref a] H (fun v _ => v = .bl true) E := by
  obtain ⟨M', hc⟩ := hc
  refine ⟨rfl, ⟨[], [], []⟩, [], [.lst (ns.map .int)], ⟨rfl, List.nodup_nil, fun i a o h => by simp at h, fun a h => by simp at h, fun a h => by simp at h⟩, ?_, ?_⟩
  · refine ⟨.ref a, [], rfl, ?_, rfl⟩
    simp only [DRel]
    refine ⟨a, _, rfl, ?_, ints_rel ns⟩
    rcases hS with hS | hS
    · exact .inl ⟨hS, by simp, by simp⟩
    · exact .inr hS
  · rw [hc]
    intro W' _ _ v dv
    exact dv
/-- whatever the globals are -/
def spL (T : Tb) (K : PySem.W.Frag) (P : Program) (w : World) (ps : List Str) (n k : Nat) : Sp := fun vs H Q E => ∀ mg, spF T ⟨K, P, w, mg, none⟩ ps n k vs H Q E
theorem sp_lawL {T : Tb} {K : PySem.W.Frag} {P : Program} {w : World} {n k : Nat} {x : Str} {H : Hp} {a : Addr} {ns : List Int} {E : XK} (hS : SqL K H a (ns.map V.int)) (hc : ∃ M', callF T n k [.lst (ns.map .int)] [] = .ok (.bl true) M') : spL T K P w [x] n k [.ref a] H (fun v _ => v = .bl true) E := fun mg => sp_law (K := ⟨K, P, w, mg, none⟩) hS hc
theorem cx_no {P : Program} {w : World} {l : List Env} {H : Hp} {s : Shared} {e : Value} {s' : Shared} (h : L2.CX P w l H s (fun _ _ _ => False) e s') : False := by
  obtain ⟨_, _, _, _, _, _, _, _, _, _, _, _, z⟩ := h
  exact z
section
variable {T : Tb} {K : PySem.W.Frag} {h : Heap} {mg : Str → Option Value}
theorem fnAt_mk (X : K.In h) (G : h.Ns mainGlobals mg) {fn : Fn} {st : Stmt} {f : Addr} {oc : Value} {od an : Option Addr} {osl : Array (Option Value)} {kV doc pm cdv ct : Value} {mt : List (Nat × Nat)}
    (a : PySem.W.nsIn K mainGlobals fn.name = some (some (.ref f)))
    (l : K.lookup f = some ⟨oc, od, .func (PySem.W.fnOf fn.name fn.name (defArgs st) (defBody st) (defScope st) .none kV doc pm an cdv ct), osl⟩)
    (c : PySem.W.codeIn K cdv fn.name = true) (k : PySem.W.keepIn K (.ref f) = true)
    (sc : FnScope fn.N fn.ps (defScope st)) (ok : OkSs T ⟨defScope st, fn.N, fun _ => true, mt, true, true⟩ (defBody st) fn.body)
    (hb : ∀ (kV doc pm : Value) (an : Option Addr) (cdv ct : Value) (us : List Value), us.length = fn.ps.length → bindArgs (PySem.W.fnOf fn.name fn.name (defArgs st) (defBody st) (defScope st) .none kV doc pm an cdv ct) ⟨us, []⟩ = pure (fn.ps.zip us)) : FnAt T K mg fn :=
  have F := fun_mk l c k
  ⟨f, _, st, fn.name, fn.name, mt, F, sc, PySem.W.mg_of X G a, F.binds hb, ok⟩
theorem con_mk {P : Program} {w : World} (X : K.In h) (G : h.Ns mainGlobals mg) {x : Str} {u : Value} {v : V} {d : D} (a : PySem.W.nsIn K mainGlobals x = some (some u)) (r : RelV v u) (k : KRel ⟨K, P, w, mg, none⟩ d v) : ∃ u v, mg x = some u ∧ RelV v u ∧ KRel ⟨K, P, w, mg, none⟩ d v := ⟨u, v, PySem.W.mg_of X G a, r, k⟩
theorem krel_tup {P : Program} {w : World} {a : Addr} {dd : Option Addr} {us : List Value} {n : Nat} {sl : Array (Option Value)} {ds : List D} {vs : List V} (l : K.lookup a = some ⟨.type "tuple", dd, .seq us.toArray n, sl⟩) (hz : us.length ≤ 1000) (hv : Vals vs us) (hd : ∀ W, DRels ⟨K, P, w, mg, none⟩ W ds vs) : KRel ⟨K, P, w, mg, none⟩ (.tup ds) (.ref a) := fun W => by
  simp only [DRel]
  exact ⟨a, vs, rfl, .inr ⟨_, us.toArray, n, l, rfl, rfl, by rw [List.size_toArray]; exact Nat.le_trans hz (by decide), by simpa using hv⟩, hd W⟩
theorem fns_at {fs : List Fn} (P : Fn → Prop) (h : ∀ f ∈ fs, P f) : ∀ (k : Nat) (f : Fn), fs[k]? = some f → P f := fun k f e => h f (List.mem_of_getElem? e)
theorem con_at {cs : List (Str × D)} {P : Str → D → Prop} (h : ∀ c ∈ cs, P c.1 c.2) : ∀ x d, cs.lookup x = some d → P x d := fun x d e => h (x, d) (PySem.mem_of_lookup e)
end
end RI

namespace RI
open PySem L2
/-! ### the meanings, applied -/
section
variable (F : FT) (r : EV) (M : Mem)
@[simp] theorem ap_var (i : Nat) : mVar i F r M = (match r[i]? with | some (some d) => .ok d M | _ => .bad) := (rfl)
@[simp] theorem ap_c (d : D) : mC d F r M = .ok d M := (rfl)
@[simp] theorem ap_nil : mNil F r M = .ok [] M := (rfl)
@[simp] theorem ap_cons (m : ME) (ms : MA) : mCons m ms F r M = (m F r M).bind fun d M1 => (ms F r M1).bind fun ds M2 => .ok (d :: ds) M2 := (rfl)
@[simp] theorem ap_tup (ms : MA) : mTup ms F r M = (ms F r M).bind fun ds M1 => if ds.length ≤ LIM then .ok (.tup ds) M1 else .bad := (rfl)
@[simp] theorem ap_lst (ms : MA) : mLst ms F r M = (ms F r M).bind fun ds M1 => if ds.length ≤ LIM then .ok (.lst ds) M1 else .bad := (rfl)
@[simp] theorem ap_lstM (ms : MA) : mLstM ms F r M = (ms F r M).bind fun ds M1 => if ds.length ≤ LIM then newO ds M1 else .bad := (rfl)
@[simp] theorem ap_B (f : D → D → Mem → Res D) (a b : ME) : mB f a b F r M = (a F r M).bind fun x M1 => (b F r M1).bind fun y M2 => (f x y M2).noX := (rfl)
@[simp] theorem ap_TB (m : ME) : mTB m F r M = (m F r M).bind fun d M1 => (match d with | .bl b => .ok b M1 | _ => .bad) := (rfl)
@[simp] theorem ap_noPart : mNoPart F r M = .ok none M := (rfl)
@[simp] theorem ap_part (m : ME) : mPart m F r M = (m F r M).bind fun d M1 => (match d with | .int i => .ok (some i) M1 | _ => .bad) := (rfl)
@[simp] theorem ap_sl (m : ME) (lo hi : MO') : mSl m lo hi F r M = (m F r M).bind fun x M1 => (lo F r M1).bind fun i M2 => (hi F r M2).bind fun j M3 => (slD x i j M3).noX := (rfl)
@[simp] theorem ap_and (a b : MT) : mAnd a b F r M = (a F r M).bind fun c M1 => if c then b F r M1 else .ok false M1 := (rfl)
@[simp] theorem ap_or (a b : MT) : mOr a b F r M = (a F r M).bind fun c M1 => if c then .ok true M1 else b F r M1 := (rfl)
@[simp] theorem ap_not (a : MT) : mNot a F r M = (a F r M).bind fun c M1 => .ok (!c) M1 := (rfl)
@[simp] theorem ap_andV (a b : ME) : mAndV a b F r M = (mTB a F r M).bind fun c M1 => if c then b F r M1 else .ok (.bl false) M1 := (rfl)
@[simp] theorem ap_orV (a b : ME) : mOrV a b F r M = (mTB a F r M).bind fun c M1 => if c then .ok (.bl true) M1 else b F r M1 := (rfl)
@[simp] theorem ap_notV (a : ME) : mNotV a F r M = (mTB a F r M).bind fun c M1 => .ok (.bl (!c)) M1 := (rfl)
@[simp] theorem ap_if (c : MT) (a b : ME) : mIf c a b F r M = (c F r M).bind fun k M1 => if k then a F r M1 else b F r M1 := (rfl)
@[simp] theorem ap_tru (m : ME) : mTru m F r M = (m F r M).bind fun d M1 => truD d M1 := (rfl)
@[simp] theorem ap_call (k : Nat) (ms : MA) : mCall k ms F r M = (ms F r M).bind fun ds M1 => F k ds M1 := (rfl)
@[simp] theorem ap_bl (f : List D → Mem → Res D) (ms : MA) : mBl f ms F r M = (ms F r M).bind fun ds M1 => (f ds M1).noX := (rfl)
@[simp] theorem ap_isi (t : Ty) (m : ME) : mIsi t m F r M = (m F r M).bind fun d M1 => (match d with | .obj i => (match M1[i]? with | some (.lst _) => .ok (.bl (isiB .list t)) M1 | _ => .bad) | .exn _ _ _ => .bad | .ins _ _ _ => .bad | d => .ok (.bl (isiB d.ty t)) M1) := (rfl)
@[simp] theorem ap_skip : mSkip F r M = .ok (.next r) M := (rfl)
@[simp] theorem ap_seq (a b : MS) : mSeq a b F r M = (a F r M).bind fun f M1 => (match f with | .next r1 => b F r1 M1 | f => .ok f M1) := (rfl)
@[simp] theorem ap_break : mBreak F r M = .ok (.brk r) M := (rfl)
@[simp] theorem ap_cont : mCont F r M = .ok (.cont r) M := (rfl)
@[simp] theorem ap_never : mNever F r M = .bad := (rfl)
@[simp] theorem ap_rse (c : Str) : mRse c F r M = .ok (.rse ⟨c, []⟩ r) M := (rfl)
@[simp] theorem ap_try (E : List (Str × Str × Bool)) (mb : MS) (hs : List (Str × MS)) : mTry E mb hs F r M = (mb F r M).bind fun f M1 => (match f with | .rse x r1 => hdls E x F r1 M1 hs | f => .ok f M1) := (rfl)
@[simp] theorem ap_ret (m : ME) : mRet m F r M = (m F r M).toS r fun d M1 => .ok (.ret d) M1 := (rfl)
@[simp] theorem ap_retN : mRetN F r M = .ok (.ret .non) M := (rfl)
@[simp] theorem ap_drop (m : ME) : mDrop m F r M = (m F r M).toS r fun _ M1 => .ok (.next r) M1 := (rfl)
@[simp] theorem ap_ifS (c : MT) (a b : MS) : mIfS c a b F r M = (c F r M).toS r fun k M1 => if k then a F r M1 else b F r M1 := (rfl)
@[simp] theorem ap_gN (i : Nat) (d : D) : gN i F d r M = .ok (r.set i (some d)) M := (rfl)
@[simp] theorem ap_gsNil : gsNil F [] r M = .ok r M := (rfl)
@[simp] theorem ap_gsCons (g : MG) (gs : MGs) (d : D) (rest : List D) : gsCons g gs F (d :: rest) r M = (g F d r M).bind fun r1 M1 => gs F rest r1 M1 := (rfl)
@[simp] theorem ap_gTp (n : Nat) (gs : MGs) (d : D) : gTp n gs F d r M = (match seqD M d with | some l => if l.length = n then gs F l r M else .bad | none => .bad) := (rfl)
@[simp] theorem ap_gSb (mo mi : ME) (d : D) : gSb mo mi F d r M = (mo F r M).bind fun o M1 => (mi F r M1).bind fun i M2 => (setD o i d M2).bind fun _ M3 => .ok r M3 := (rfl)
@[simp] theorem ap_asg (m : ME) (g : MG) : mAsg m g F r M = (m F r M).toS r fun d M1 => (g F d r M1).bind fun r1 M2 => .ok (.next r1) M2 := (rfl)
@[simp] theorem ap_par (i j : Nat) (ms : MA) : mPar i j ms F r M = (ms F r M).toS r fun ds M1 => (match ds with | [v, w] => .ok (.next ((r.set i (some v)).set j (some w))) M1 | _ => .bad) := (rfl)
@[simp] theorem ap_par3 (i j l : Nat) (ms : MA) : mPar3 i j l ms F r M = (ms F r M).toS r fun ds M1 => (match ds with | [u, v, w] => .ok (.next (((r.set i (some u)).set j (some v)).set l (some w))) M1 | _ => .bad) := (rfl)
@[simp] theorem ap_aug (i : Nat) (f : D → D → Mem → Res D) (m : ME) : mAug i f m F r M = (match r[i]? with | some (some d) => (m F r M).toS r fun e M1 => (f d e M1).noX.bind fun z M2 => .ok (.next (r.set i (some z))) M2 | _ => .bad) := (rfl)
@[simp] theorem ap_whl (c : MT) (b : MS) : mWhl c b F r M = whileN c b F FUEL r M := (rfl)
@[simp] theorem ap_seqI (m : ME) : mSeqI m F r M = (m F r M).bind fun d M1 => (match d with | .tup l => .ok (l, none) M1 | .lst l => .ok (l, none) M1 | .obj j => (match M1[j]? with | some (.lst l) => .ok (l, some (j, l)) M1 | _ => .bad) | _ => .bad) := (rfl)
@[simp] theorem ap_rng1 (ms : MA) : mRng1 ms F r M = (ms F r M).bind fun ds M1 => (match ds with | [.int j] => if rngOk j = true then .ok (rngD 0 j.toNat, none) M1 else .bad | _ => .bad) := (rfl)
@[simp] theorem ap_enum (ms : MA) : mEnum ms F r M = (ms F r M).bind fun ds M1 => (match ds with | [.tup l] => .ok (enumD 0 l, none) M1 | [.lst l] => .ok (enumD 0 l, none) M1 | _ => .bad) := (rfl)
@[simp] theorem ap_for (mi : MI) (g : MG) (b : MS) : mFor mi g b F r M = (mi F r M).toS r fun p M1 => forG p.2 g b F p.1 r M1 := (rfl)
@[simp] theorem ap_app (mo mv : ME) : mApp mo mv F r M = (mo F r M).bind fun o M1 => (match o with | .obj j => (match M1[j]? with | some (.lst _) => (mv F r M1).bind fun v M2 => (appD o v M2).noX | _ => .bad) | _ => .bad) := (rfl)
@[simp] theorem ap_yes : mYes F r M = .ok true M := (rfl)
@[simp] theorem ap_lc (mi : MI) (g : MG) (mt : MT) (me : ME) (vs : List Nat) : mLc mi g mt me vs F r M = (mi F r M).bind fun p M1 => if p.1.length ≤ LIM then (lcG p.2 g mt me F (wipeE r vs) p.1 M1).noX.bind fun ys M2 => .ok (.lst ys) M2 else .bad := (rfl)
@[simp] theorem ap_chain (f g : D → D → Mem → Res D) (a b c : ME) : mChain f g a b c F r M = (a F r M).bind fun x M1 => (b F r M1).bind fun y M2 => (f x y M2).noX.bind fun z M3 => (match z with | .bl true => (c F r M3).bind fun w M4 => (g y w M4).noX | .bl false => .ok (.bl false) M3 | _ => .bad) := (rfl)
@[simp] theorem ap_neg (m : ME) : mNeg m F r M = (m F r M).bind fun d M1 => (match d with | .int i => .ok (.int (-i)) M1 | _ => .bad) := (rfl)
@[simp] theorem ap_zip (ms : MA) : mZip ms F r M = (ms F r M).bind fun ds M1 => (match ds with | [.tup a, .tup b] => .ok (zipD a b, none) M1 | _ => .bad) := (rfl)
@[simp] theorem ap_get2 (mo mk md : ME) : mGet2 mo mk md F r M = (mo F r M).bind fun o M1 => if isDctD M1 o = true then (mk F r M1).bind fun k M2 => (md F r M2).bind fun d M3 => (getD2 o k d M3).noX else .bad := (rfl)
@[simp] theorem ap_dct0 : mDct0 F r M = .ok (.obj M.length) (M ++ [.dct false []]) := (rfl)
@[simp] theorem ap_dct1 (mk mv : ME) : mDct1 mk mv F r M = (mk F r M).noX.bind fun k M1 => (mv F r M1).noX.bind fun v M2 => if (D.isKey k && D.bel M2.length v) = true then .ok (.obj M2.length) (M2 ++ [.dct false [(k, v)]]) else .bad := (rfl)
end
@[simp] theorem noX_ite {A : Type} (c : Prop) [Decidable c] (a b : Res A) : (if c then a else b).noX = if c then a.noX else b.noX := by split <;> rfl
@[simp] theorem noX_exc {A : Type} (x : Ex) (M : Mem) : (Res.exc x M : Res A).noX = .bad := rfl
theorem ixD_S {M : Mem} {x y : D} (h : dctD M x = none) (h' : dksD M x = none) : ixD x y M = ixS x y M := by simp only [ixD, h, h']
theorem inD_S {M : Mem} {n : Bool} {x y : D} (h : dctD M y = none) (h' : dksD M y = none) : inD n x y M = inS n x y M := by simp only [inD, h, h']
theorem setD_S {M : Mem} {j : Nat} {l : List D} {y v : D} (h : M[j]? = some (.lst l)) : setD (.obj j) y v M = setS (.obj j) y v M := by simp only [setD, wctD, wksD, h]
theorem setD_K {M : Mem} {j : Nat} {l : List (D × D)} {y v : D} (h : M[j]? = some (.dct false l)) : setD (.obj j) y v M = setK (.obj j) y v l M := by simp only [setD, wctD, h]
theorem setD_Ks {M : Mem} {j : Nat} {l : List (D × D)} {y v : D} (h : M[j]? = some (.dks false l)) : setD (.obj j) y v M = setKs (.obj j) y v l M := by simp only [setD, wctD, wksD, h]
@[simp] theorem dctD_lst (M : Mem) (l : List D) : dctD M (.lst l) = none := (rfl)
@[simp] theorem dctD_tup (M : Mem) (l : List D) : dctD M (.tup l) = none := (rfl)
@[simp] theorem dksD_lst (M : Mem) (l : List D) : dksD M (.lst l) = none := (rfl)
@[simp] theorem dksD_tup (M : Mem) (l : List D) : dksD M (.tup l) = none := (rfl)
/-! ### data -/
@[simp] theorem add_ii (i j : Int) (M : Mem) : addD (.int i) (.int j) M = .ok (.int (i + j)) M := (rfl)
@[simp] theorem intD_ii (c : Int → Int → Bool) (g : Int → Int → D) (i j : Int) (M : Mem) : intD c g (.int i) (.int j) M = if c i j then .ok (g i j) M else .bad := (rfl)
@[simp] theorem sub_ii (i j : Int) (M : Mem) : subD (.int i) (.int j) M = .ok (.int (i - j)) M := (rfl)
@[simp] theorem mod_ii (i j : Int) (M : Mem) : modD (.int i) (.int j) M = if 0 < j then .ok (.int (i % j)) M else .bad := by simp [modD]
@[simp] theorem fdiv_ii (i j : Int) (M : Mem) : fdivD (.int i) (.int j) M = if 0 < j ∧ j < 1073741824 then .ok (.int (i / j)) M else .bad := by simp [fdivD]
@[simp] theorem lt_ii (i j : Int) (M : Mem) : ltD (.int i) (.int j) M = .ok (.bl (decide (i < j))) M := (rfl)
@[simp] theorem le_ii (i j : Int) (M : Mem) : leD (.int i) (.int j) M = .ok (.bl (decide (i ≤ j))) M := (rfl)
@[simp] theorem gt_ii (i j : Int) (M : Mem) : gtD (.int i) (.int j) M = .ok (.bl (decide (j < i))) M := (rfl)
@[simp] theorem ge_ii (i j : Int) (M : Mem) : geD (.int i) (.int j) M = .ok (.bl (decide (j ≤ i))) M := (rfl)
theorem mul_ii {i j : Int} (h : cmul i j = true) (M : Mem) : mulT (.int i) (.int j) M = .ok (.int (i * j)) M := by simp [mulT, mulD, h]
@[simp] theorem max_two (x y : D) (M : Mem) : maxLD [x, y] M = max2D [x, y] M := (rfl)
@[simp] theorem min_two (x y : D) (M : Mem) : minLD [x, y] M = min2D [x, y] M := (rfl)
/-! data without objects -/
mutual
theorem frz_pure (g : Nat → D) : ∀ d : D, D.noObj d = true → D.frz g d = d
  | .non, _ => rfl
  | .bl _, _ => rfl
  | .int _, _ => rfl
  | .str _, _ => rfl
  | .obj _, h => by simp [D.noObj] at h
  | .exn _ _ _, h => by simp [D.noObj] at h
  | .ins _ _ _, h => by simp [D.noObj] at h
  | .tup l, h => by simp only [D.noObj] at h; simp only [D.frz, frzs_pure g l h]
  | .lst l, h => by simp only [D.noObj] at h; simp only [D.frz, frzs_pure g l h]
theorem frzs_pure (g : Nat → D) : ∀ ds : List D, D.noObjs ds = true → D.frzs g ds = ds
  | [], _ => rfl
  | d :: ds, h => by
    simp only [D.noObjs, Bool.and_eq_true] at h
    simp only [D.frzs, frz_pure g d h.1, frzs_pure g ds h.2]
end
mutual
theorem bel_pure (n : Nat) : ∀ d : D, D.noObj d = true → D.bel n d = true
  | .non, _ => rfl
  | .bl _, _ => rfl
  | .int _, _ => rfl
  | .str _, _ => rfl
  | .obj _, h => by simp [D.noObj] at h
  | .exn _ _ _, h => by simp [D.noObj] at h
  | .ins _ _ _, h => by simp [D.noObj] at h
  | .tup l, h => by simp only [D.noObj] at h; simp only [D.bel, bels_pure n l h]
  | .lst l, h => by simp only [D.noObj] at h; simp only [D.bel, bels_pure n l h]
theorem bels_pure (n : Nat) : ∀ ds : List D, D.noObjs ds = true → D.bels n ds = true
  | [], _ => rfl
  | d :: ds, h => by
    simp only [D.noObjs, Bool.and_eq_true] at h
    simp only [D.bels, bel_pure n d h.1, bels_pure n ds h.2, Bool.and_self]
end
theorem noObjs_map {A : Type} (f : A → D) (h : ∀ a, D.noObj (f a) = true) : ∀ l : List A, D.noObjs (l.map f) = true
  | [] => rfl
  | a :: l => by simp only [List.map_cons, D.noObjs, h a, noObjs_map f h l, Bool.and_self]
@[simp] theorem noObjs_ints (l : List Int) : D.noObjs (l.map D.int) = true := noObjs_map _ (fun _ => rfl) l
@[simp] theorem noObj_int (i : Int) : D.noObj (.int i) = true := (rfl)
@[simp] theorem noObj_bl (i : Bool) : D.noObj (.bl i) = true := (rfl)
@[simp] theorem noObj_str (i : List Nat) : D.noObj (.str i) = true := (rfl)
@[simp] theorem noObj_non : D.noObj .non = true := (rfl)
@[simp] theorem noObj_tup (l : List D) : D.noObj (.tup l) = D.noObjs l := (rfl)
@[simp] theorem noObj_lst (l : List D) : D.noObj (.lst l) = D.noObjs l := (rfl)
@[simp] theorem noObjs_nil : D.noObjs [] = true := (rfl)
@[simp] theorem noObjs_cons (d : D) (ds : List D) : D.noObjs (d :: ds) = (D.noObj d && D.noObjs ds) := (rfl)
/-- a result without objects, the memory as it was (and what was made since) -/
theorem fin_pure {d : D} {M M' : Mem} (h : D.noObj d = true) (e : M'.take M.length = M) : fin false M.length d M' = .ok d M := by
  unfold fin
  rw [frz_pure _ d h, bel_pure _ d h, e]
  rfl
@[simp] theorem fin_same {d : D} {M : Mem} (h : D.noObj d = true) : fin false M.length d M = .ok d M := fin_pure h (by simp)
@[simp] theorem fin_more {d : D} {M X : Mem} (h : D.noObj d = true) : fin false M.length d (M ++ X) = .ok d M := fin_pure h (by simp)
@[simp] theorem fin_keep {d : D} {n : Nat} {M : Mem} : fin true n d M = .ok d M := (rfl)
@[simp] theorem retOf_ret (k : Bool) (n : Nat) (d : D) (M : Mem) : retOf k n (.ok (.ret d) M) = fin k n d M := (rfl)
@[simp] theorem retOf_next (k : Bool) (n : Nat) (r : EV) (M : Mem) : retOf k n (.ok (.next r) M) = fin k n .non M := (rfl)
@[simp] theorem lstD_lst (M : Mem) (l : List D) : lstD M (.lst l) = some l := (rfl)
@[simp] theorem seqD_lst (M : Mem) (l : List D) : seqD M (.lst l) = some l := (rfl)
@[simp] theorem seqD_tup (M : Mem) (l : List D) : seqD M (.tup l) = some l := (rfl)
/-- equality of flat things -/
theorem str_beq (s t : List Nat) : ((⟨s.toArray⟩ : Str) == ⟨t.toArray⟩) = decide (s = t) := by
  by_cases h : s = t
  · subst h; simp
  · have : (⟨s.toArray⟩ : Str) ≠ ⟨t.toArray⟩ := fun e => h (by injection e with e; simpa using e)
    simp [h, this]
@[simp] theorem eq_ii (n : Bool) (i j : Int) (M : Mem) : eqD n (.int i) (.int j) M = .ok (.bl (if n then !decide (i = j) else decide (i = j))) M := by
  have h : (PyData.eqv (.int i) (.int j)) = decide (i = j) := by
    simp only [PyData.eqv]
    by_cases e : i = j <;> simp [e]
  simp [eqD, derefD, D.toP, SeqAt.shaped, PyData.canLay0, PyData.depth, h]
theorem eq_ss {s t : List Nat} (hs : s.all (· < 1114112) = true) (ht : t.all (· < 1114112) = true) (n : Bool) (M : Mem) : eqD n (.str s) (.str t) M = .ok (.bl (if n then !decide (s = t) else decide (s = t))) M := by
  have h : (PyData.eqv (.str ⟨s.toArray⟩) (.str ⟨t.toArray⟩)) = decide (s = t) := by
    simp only [PyData.eqv, str_beq]
  have k : ∀ u : List Nat, u.all (· < 1114112) = true → PyData.canLay0 (.str ⟨u.toArray⟩) = true := fun u hu => by
    simp only [PyData.canLay0, PyData.strOk, List.all_toArray]; exact hu
  simp [eqD, derefD, D.toP, SeqAt.shaped, k s hs, k t ht, PyData.depth, h]
theorem toPs_map {A : Type} (f : A → D) : ∀ l : List A, D.toPs (l.map f) = l.map fun a => D.toP (f a)
  | [] => rfl
  | a :: l => by simp only [List.map_cons, D.toPs, toPs_map f l]
theorem canLay_map {A : Type} (g : A → PyData) (h : ∀ a, (g a).canLay0 = true) : ∀ l : List A, PyData.canLayAll0 (l.map g) = true
  | [] => rfl
  | a :: l => by simp only [List.map_cons, PyData.canLayAll0, h a, canLay_map g h l, Bool.and_self]
theorem depth_map {A : Type} (g : A → PyData) (n : Nat) (h : ∀ a, (g a).depth ≤ n) : ∀ l : List A, PyData.depthAll (l.map g) ≤ n
  | [] => Nat.zero_le _
  | a :: l => by
    simp only [List.map_cons, PyData.depthAll]
    exact Nat.max_le.mpr ⟨h a, depth_map g n h l⟩
/-- flat or nearly flat items -/
structure Nice {A : Type} (f : A → D) : Prop where
  no : ∀ a, D.noObj (f a) = true
  lay : ∀ a, (D.toP (f a)).canLay0 = true
  dep : ∀ a, (D.toP (f a)).depth ≤ 32
theorem nice_int : Nice D.int := ⟨fun _ => rfl, fun _ => rfl, fun _ => Nat.zero_le _⟩
theorem Nice.shT {A : Type} {f : A → D} (h : Nice f) (l : List A) : SeqAt.shaped (D.toP (.tup (l.map f))) = true := by
  have h1 := canLay_map _ h.lay l
  have h2 := depth_map _ 32 h.dep l
  simp only [D.toP, SeqAt.shaped, PyData.canLay0, PyData.depth, toPs_map, h1, Bool.true_and, decide_eq_true_eq]
  omega
theorem Nice.shL {A : Type} {f : A → D} (h : Nice f) (l : List A) : SeqAt.shaped (D.toP (.lst (l.map f))) = true := by
  have h1 := canLay_map _ h.lay l
  have h2 := depth_map _ 32 h.dep l
  simp only [D.toP, SeqAt.shaped, PyData.canLay0, PyData.depth, toPs_map, h1, Bool.true_and, decide_eq_true_eq]
  omega
theorem Nice.noL {A : Type} {f : A → D} (h : Nice f) (l : List A) : D.noObjs (l.map f) = true := noObjs_map f h.no l
theorem Nice.tup {A : Type} {f : A → D} (h : Nice f) (hd : ∀ a, (D.toP (f a)).depth ≤ 31) : Nice (fun l : List A => .tup (l.map f)) :=
  ⟨fun l => h.noL l, fun l => by
    simp only [D.toP, PyData.canLay0, toPs_map]; exact canLay_map _ h.lay l, fun l => by
    have := depth_map (fun a => D.toP (f a)) 31 hd l
    simp only [D.toP, PyData.depth, toPs_map]; omega⟩
/-- a list and [] -/
theorem eq_nil {A : Type} {f : A → D} (h : Nice f) (n : Bool) (l : List A) (M : Mem) : eqD n (.lst (l.map f)) (.lst []) M = .ok (.bl (if n then !l.isEmpty else l.isEmpty)) M := by
  have e : PyData.eqv (D.toP (.lst (l.map f))) (D.toP (.lst [])) = l.isEmpty := by
    cases l <;> simp [D.toP, D.toPs, PyData.eqv, PyData.eqvAll]
  simp only [eqD, derefD, noObj_lst, h.noL, noObjs_nil, h.shL, e]
  rfl
/-- alike -/
theorem eq_same {d : D} (h1 : D.noObj d = true) (h2 : SeqAt.shaped (D.toP d) = true) (n : Bool) (M : Mem) : eqD n d d M = .ok (.bl (!n)) M := by
  have e : derefD M d = d := by cases d <;> first | rfl | simp [D.noObj] at h1
  have r : PyData.eqv (D.toP d) (D.toP d) = true := SeqAt.eqv_refl _ (SeqAt.canLay_of_shaped h2)
  simp only [eqD, e, h1, h2, Bool.and_self, if_true, r]
  cases n <;> rfl
/-- membership among ints -/
theorem eqv_int (i j : Int) : PyData.eqv (.int i) (.int j) = decide (i = j) := by
  simp only [PyData.eqv]
  by_cases e : i = j <;> simp [e]
theorem any_ints (x : Int) : ∀ l : List Int, ((D.toPs (l.map D.int)).any fun z => PyData.eqv z (.int x)) = decide (x ∈ l)
  | [] => by simp [D.toPs]
  | a :: l => by
    simp only [List.map_cons, D.toPs, D.toP, List.any_cons, eqv_int, any_ints x l]
    by_cases h : a = x
    · simp [h]
    · have : x ≠ a := fun e => h e.symm
      simp [h, this]
theorem in_ints (n : Bool) (x : Int) (l : List Int) (M : Mem) {d : D} (h : seqD M d = some (l.map D.int)) : inD n (.int x) d M = .ok (.bl (if n then !decide (x ∈ l) else decide (x ∈ l))) M := by
  have hc : PyData.canLayAll0 (D.toPs (l.map D.int)) = true := by rw [toPs_map]; exact canLay_map _ (fun _ => rfl) l
  have hs : SeqAt.shaped (D.toP (.int x)) = true := by simp [D.toP, SeqAt.shaped, PyData.canLay0, PyData.depth]
  rw [inD_S (dctD_none h) (dksD_none h)]
  simp only [inS, h, noObj_int, noObjs_ints, hs, hc, Bool.and_self, if_true]
  simp only [D.toP, any_ints]
theorem at_nat {A : Type} {l : List A} {i : Int} (h0 : 0 ≤ i) (h1 : i < l.length) : atI l i = some (l[i.toNat]'(by omega)) := by
  have e : i = ((i.toNat : Nat) : Int) := by omega
  have := atI_nat (xs := l) (j := i.toNat) (List.getElem?_eq_getElem (by omega))
  rw [← e] at this
  exact this
end RI

namespace RI
open PySem L2
/-! ### lists, whether frozen or not -/
theorem lstD_cases {M : Mem} {d : D} {l : List D} (h : lstD M d = some l) : d = .lst l ∨ ∃ j, d = .obj j ∧ M[j]? = some (.lst l) := by
  cases d with
  | lst l' => simp only [lstD, Option.some.injEq] at h; exact .inl (by rw [h])
  | obj j =>
    simp only [lstD] at h
    cases e : M[j]? with
    | none => rw [e] at h; cases h
    | some o =>
      cases o with
      | dct _ l' => rw [e] at h; cases h
      | dks _ l' => rw [e] at h; cases h
      | ins _ l' => rw [e] at h; cases h
      | lst l' =>
        rw [e] at h
        simp only [Option.some.injEq] at h
        exact .inr ⟨j, rfl, by rw [e, h]⟩
  | _ => simp [lstD] at h
theorem seqD_of {M : Mem} {d : D} {l : List D} (h : lstD M d = some l) : seqD M d = some l := by
  rcases lstD_cases h with rfl | ⟨j, rfl, e⟩
  · rfl
  · simp [seqD, e]
theorem ix_seq {M : Mem} {d : D} {l : List D} {i : Int} (h : seqD M d = some l) : ixD d (.int i) M = (match atI l i with | some d => .ok d M | none => .bad) := by
  rw [ixD_S (dctD_none h) (dksD_none h)]
  simp only [ixS, h] <;> (cases atI l i <;> rfl)
theorem ix_get {M : Mem} {d x : D} {l : List D} {i : Int} (h : seqD M d = some l) (e : atI l i = some x) : ixD d (.int i) M = .ok x M := by
  rw [ix_seq h, e]
theorem at_0 {A : Type} (x : A) (l : List A) : atI (x :: l) 0 = some x := atI_nat (j := 0) rfl
theorem at_1 {A : Type} (x y : A) (l : List A) : atI (x :: y :: l) 1 = some y := atI_nat (j := 1) rfl
theorem at_2 {A : Type} (x y z : A) (l : List A) : atI (x :: y :: z :: l) 2 = some z := atI_nat (j := 2) rfl
theorem ix_lst0 {M : Mem} {x : D} {l : List D} : ixD (.lst (x :: l)) (.int 0) M = .ok x M := ix_get rfl (at_0 x l)
theorem ix_tup0 {M : Mem} {x : D} {l : List D} : ixD (.tup (x :: l)) (.int 0) M = .ok x M := ix_get rfl (at_0 x l)
theorem ix_tup1 {M : Mem} {x y : D} {l : List D} : ixD (.tup (x :: y :: l)) (.int 1) M = .ok y M := ix_get rfl (at_1 x y l)
theorem ix_lst1 {M : Mem} {x y : D} {l : List D} : ixD (.lst (x :: y :: l)) (.int 1) M = .ok y M := ix_get rfl (at_1 x y l)
theorem cut_1 (l : List D) : cutD l (some 1) none = l.drop 1 := by
  unfold cutD
  rw [show HT.sIx l.length 0 (some 1) = min 1 l.length from HT.sIx_nat l.length 0 1, HT.sIx_none]
  cases l with
  | nil => rfl
  | cons x r =>
    rw [show min 1 (x :: r).length = 1 by rw [List.length_cons]; omega]
    show (List.take ((x :: r).length - 1) r) = r
    rw [List.length_cons, Nat.add_sub_cancel]
    exact List.take_length
theorem sl_of {M : Mem} {d : D} {l : List D} (h : lstD M d = some l) (lo hi : Option Int) : slD d lo hi M = .ok (.lst (cutD l lo hi)) M := by
  rcases lstD_cases h with rfl | ⟨j, rfl, e⟩ <;> simp only [slD, h]
theorem slT (l : List D) (lo hi : Option Int) (M : Mem) : slD (.tup l) lo hi M = .ok (.tup (cutD l lo hi)) M := rfl
theorem add_of {M : Mem} {d e : D} {l l' : List D} (h : lstD M d = some l) (h' : lstD M e = some l') (hz : l.length + l'.length ≤ LIM) : addD d e M = .ok (.lst (l ++ l')) M := by
  rcases lstD_cases h with rfl | ⟨j, rfl, q⟩ <;> rcases lstD_cases h' with rfl | ⟨j', rfl, q'⟩ <;> simp only [addD, h, h', hz, if_true]
theorem add_tup {a b : List D} (hz : a.length + b.length ≤ LIM) (M : Mem) : addD (.tup a) (.tup b) M = .ok (.tup (a ++ b)) M := by
  simp only [addD, hz, if_true]
theorem add_lst {a b : List D} (hz : a.length + b.length ≤ LIM) (M : Mem) : addD (.lst a) (.lst b) M = .ok (.lst (a ++ b)) M := add_of rfl rfl hz
theorem len_of {M : Mem} {d : D} {l : List D} (h : seqD M d = some l) : lenD [d] M = .ok (.int l.length) M := by
  cases d with
  | str s => simp [seqD] at h
  | _ => simp only [lenD, h]
theorem tup_of {M : Mem} {d : D} {l : List D} (h : lstD M d = some l) : toTupD [d] M = .ok (.tup l) M := by
  rcases lstD_cases h with rfl | ⟨j, rfl, q⟩ <;> simp only [toTupD, h]
theorem tup_tup (l : List D) (M : Mem) : toTupD [.tup l] M = .ok (.tup l) M := rfl
theorem toLst_of {M : Mem} {d : D} {l : List D} (h : seqD M d = some l) : toLstD false [d] M = .ok (.lst l) M := by
  simp only [toLstD, h]; rfl
theorem toLstM_of {M : Mem} {d : D} {l : List D} (h : seqD M d = some l) (b : D.noObjs l = true) : toLstD true [d] M = .ok (.obj M.length) (M ++ [.lst l]) := by
  simp only [toLstD, h, newO, bels_pure _ l b, if_true]
theorem newO_pure {l : List D} (b : D.noObjs l = true) (M : Mem) : newO l M = .ok (.obj M.length) (M ++ [.lst l]) := by
  simp only [newO, bels_pure _ l b, if_true]
theorem get_last {M X : Mem} {o : MO} : (M ++ o :: X)[M.length]? = some o := by
  rw [List.getElem?_append_right (Nat.le_refl _)]; simp
theorem lstD_last {M X : Mem} {l : List D} : lstD (M ++ .lst l :: X) (.obj M.length) = some l := by
  simp only [lstD, get_last]
theorem set_last {M X : Mem} {o o' : MO} : (M ++ o :: X).set M.length o' = M ++ o' :: X := by
  rw [List.set_append_right _ _ (Nat.le_refl _)]; simp
theorem app_last {M X : Mem} {l : List D} {v : D} (hz : l.length < LIM) (hv : D.noObj v = true) : appD (.obj M.length) v (M ++ .lst l :: X) = .ok .non (M ++ .lst (l ++ [v]) :: X) := by
  simp only [appD, get_last, hz, bel_pure _ v hv, and_self, if_true, set_last]
/-- a pair whose first is an object made since -/
theorem frz_last {M X : Mem} {l : List D} (b : D.noObjs l = true) : frzM (M ++ .lst l :: X) M.length 3 M.length = .lst l := by
  simp only [frzM, Nat.lt_irrefl, if_false, get_last, frzs_pure _ l b]
theorem lim_ok {n : Nat} (h : n ≤ 1000) : n ≤ LIM := by
  show n ≤ 16777216
  omega
@[simp] theorem noObjs_app (a b : List D) : D.noObjs (a ++ b) = (D.noObjs a && D.noObjs b) := by
  induction a with
  | nil => simp
  | cons d ds ih => simp [ih, Bool.and_assoc]
theorem noObjs_tail {a : List D} (h : D.noObjs a = true) : D.noObjs a.tail = true := by
  cases a with
  | nil => rfl
  | cons d ds => simp only [noObjs_cons, Bool.and_eq_true] at h; exact h.2
theorem noObjs_drop {a : List D} (h : D.noObjs a = true) : ∀ n, D.noObjs (a.drop n) = true := fun n => by
  induction n generalizing a with
  | zero => exact h
  | succ n ih =>
    cases a with
    | nil => rfl
    | cons d ds => simp only [noObjs_cons, Bool.and_eq_true] at h; exact ih h.2
@[simp] theorem noObjs_tail_ints (l : List Int) : D.noObjs (l.map D.int).tail = true := noObjs_tail (noObjs_ints l)
end RI

namespace RI
open PySem L2
/-! ### the laws' own stream of numbers -/
def mixG : MG := (gN 3)
def mixL : MS := (mAsg (mB modD (mBl toIntD (mCons (mB addD (mB addD (mB mulT (mVar 2) (mC (.int 48271))) (mB modD (mBl toIntD (mCons (mVar 3) mNil)) (mC (.int 2147483629)))) (mC (.int 1))) mNil)) (mC (.int 2147483647))) (gN 2))
def mixB : MS := (mSeq (mAsg (mVar 1) (gN 2))
 (mSeq (mFor (mSeqI (mVar 0)) mixG mixL)
 (mRet (mLstM (mCons (mVar 2) (mCons (mBl (toLstD true) (mCons (mVar 0) mNil)) (mCons (mC (.int 0)) mNil)))))))
def nextB : MS := (mSeq (mAsg (mB ixD (mB addD (mB ixD (mVar 0) (mC (.int 1))) (mLst (mCons (mC (.int 0)) mNil))) (mB modD (mBl toIntD (mCons (mB ixD (mVar 0) (mC (.int 2))) mNil)) (mBl maxLD (mCons (mC (.int 1)) (mCons (mBl lenD (mCons (mB ixD (mVar 0) (mC (.int 1))) mNil)) mNil))))) (gN 2))
 (mSeq (mIfS (mTB (mB geD (mVar 2) (mB powD (mC (.int 10)) (mC (.int 18)))))
 (mSeq (mAsg (mB ixD (mVar 0) (mC (.int 1))) (gN 3))
 (mSeq (mAsg (mB fdivD (mVar 2) (mVar 1)) (gSb (mVar 3) (mB modD (mBl toIntD (mCons (mB ixD (mVar 0) (mC (.int 2))) mNil)) (mBl lenD (mCons (mVar 3) mNil)))))
 (mRet (mB modD (mBl toIntD (mCons (mVar 2) mNil)) (mVar 1)))))
 mSkip)
 (mSeq (mAsg (mB modD (mBl toIntD (mCons (mB addD (mB addD (mB mulT (mB ixD (mVar 0) (mC (.int 0))) (mC (.int 48271))) (mB mulT (mVar 2) (mC (.int 69621)))) (mC (.int 11))) mNil)) (mC (.int 2147483647))) (gSb (mVar 0) (mC (.int 0))))
 (mSeq (mAsg (mB addD (mB ixD (mVar 0) (mC (.int 2))) (mC (.int 1))) (gSb (mVar 0) (mC (.int 2))))
 (mRet (mB modD (mBl toIntD (mCons (mB fdivD (mB ixD (mVar 0) (mC (.int 0))) (mC (.int 7))) mNil)) (mVar 1)))))))
def memS (cells : List Int) (s i : Int) (rest : Mem) : Mem := .lst (cells.map D.int) :: .lst [.int s, .obj 0, .int i] :: rest
/-- the stream lies in objects 0 and 1 -/
def Hm (M rest : Mem) : Prop := ∃ cells s i, cells.length ≤ 63 ∧ M = memS cells s i rest
theorem cmul_s {i j : Int} (h : Nat.ble j.natAbs 18446744073709551615 = true) : cmul i j = true := by
  unfold cmul; rw [h, Bool.or_true]
@[simp] theorem toInt_i (i : Int) (M : Mem) : toIntD [.int i] M = .ok (.int i) M := (rfl)
theorem mul_a (i : Int) (M : Mem) : mulT (.int i) (.int 48271) M = .ok (.int (i * 48271)) M := mul_ii (cmul_s rfl) M
theorem mul_b (i : Int) (M : Mem) : mulT (.int i) (.int 69621) M = .ok (.int (i * 69621)) M := mul_ii (cmul_s rfl) M
theorem mix_loop (F : FT) (a b : Option D) (M : Mem) : ∀ (l : List Int) (s : Int) (z : Option D), ∃ s' z', forG none mixG mixL F (l.map D.int) [a, b, some (.int s), z] M = .ok (.next [a, b, some (.int s'), z']) M
  | [], s, z => ⟨s, z, rfl⟩
  | x :: l, s, z => by
    obtain ⟨s', z', ih⟩ := mix_loop F a b M l ((s * 48271 + x % 2147483629 + 1) % 2147483647) (some (.int x))
    refine ⟨s', z', ?_⟩
    rw [← ih]
    simp [forG, mixG, mixL, mul_a]
theorem mix_ok (F : FT) (ns : List Int) (seed : Int) (h : ns.length ≤ 63) : ∃ M, Hm M [] ∧ retOf true ([] : Mem).length (mixB F [some (.lst (ns.map .int)), some (.int seed), none, none] []) = .ok (.obj 1) M := by
  obtain ⟨s', z', e⟩ := mix_loop F (some (.lst (ns.map .int))) (some (.int seed)) [] ns seed none
  refine ⟨_, ⟨ns, s', 0, h, rfl⟩, ?_⟩
  have h1 := toLstM_of (M := []) (d := .lst (ns.map .int)) (l := ns.map .int) rfl (noObjs_ints ns)
  have h2 : newO [.int s', .obj 0, .int 0] [.lst (ns.map D.int)] = .ok (.obj 1) (memS ns s' 0 []) := rfl
  simp [mixB, e, h1, h2, LIM]
theorem pow_10 (M : Mem) : powD (.int 10) (.int 18) M = .ok (.int 1000000000000000000) M := by
  simp [powD]
theorem ixS0 {c : List Int} {s i : Int} {X : Mem} : ixD (.obj 1) (.int 0) (memS c s i X) = .ok (.int s) (memS c s i X) := ix_get (l := [.int s, .obj 0, .int i]) rfl (at_0 _ _)
theorem ixS1 {c : List Int} {s i : Int} {X : Mem} : ixD (.obj 1) (.int 1) (memS c s i X) = .ok (.obj 0) (memS c s i X) := ix_get (l := [.int s, .obj 0, .int i]) rfl (at_1 _ _ _)
theorem ixS2 {c : List Int} {s i : Int} {X : Mem} : ixD (.obj 1) (.int 2) (memS c s i X) = .ok (.int i) (memS c s i X) := ix_get (l := [.int s, .obj 0, .int i]) rfl (at_2 _ _ _ _)
theorem ixN_3_0 : ixN 3 0 = some 0 := by decide
theorem ixN_3_2 : ixN 3 2 = some 2 := by decide
theorem setS0 {c : List Int} {s i v : Int} {X : Mem} : setD (.obj 1) (.int 0) (.int v) (memS c s i X) = .ok () (memS c v i X) := by
  rw [setD_S rfl]; simp [setS, memS, ixN_3_0, D.bel]
theorem setS2 {c : List Int} {s i v : Int} {X : Mem} : setD (.obj 1) (.int 2) (.int v) (memS c s i X) = .ok () (memS c s v X) := by
  rw [setD_S rfl]; simp [setS, memS, ixN_3_2, D.bel]
theorem setSc {c : List Int} {s i v k : Int} {X : Mem} (h0 : 0 ≤ k) (h1 : k < c.length) : setD (.obj 0) (.int k) (.int v) (memS c s i X) = .ok () (memS (c.set k.toNat v) s i X) := by
  have e : ixN c.length k = some k.toNat := by
    unfold ixN
    simp [h0, h1]
  rw [setD_S rfl]; simp [setS, memS, e, D.bel, List.map_set]
theorem fin_memS {c c' : List Int} {s i s' i' r : Int} {X : Mem} : fin false (memS c s i X).length (.int r) (memS c' s' i' X) = .ok (.int r) (memS c' s' i' X) := by
  have e : (memS c s i X).length = (memS c' s' i' X).length := rfl
  rw [e]
  exact fin_same rfl
theorem next_ok (F : FT) (b : Int) (h1 : 1 ≤ b) (h2 : b < 1073741824) (M X : Mem) (h : Hm M X) : ∃ r M', 0 ≤ r ∧ r < b ∧ Hm M' X ∧ retOf false M.length (nextB F [some (.obj 1), some (.int b), none, none] M) = .ok (.int r) M' := by
  obtain ⟨c, s, i, hc, rfl⟩ := h
  have hb : 0 < b := by omega
  have hm : (0 : Int) < max 1 (c.length : Int) := by omega
  have k0 := Int.emod_nonneg i (Int.ne_of_gt hm)
  have k1 := Int.emod_lt_of_pos i hm
  have hadd : addD (.obj 0) (.lst [.int 0]) (memS c s i X) = .ok (.lst (c.map .int ++ [.int 0])) (memS c s i X) := 
    add_of (l := c.map .int) (l' := [.int 0]) rfl rfl (by simp [LIM]; omega)
  have hlen : lenD [.obj 0] (memS c s i X) = .ok (.int c.length) (memS c s i X) := by
    rw [len_of (l := c.map .int) rfl]; simp
  have hmax : ∀ M, max2D [.int 1, .int (c.length : Int)] M = .ok (.int (max 1 (c.length : Int))) M := by
    intro M; simp only [max2D]; congr 2; omega
  have hk : i % max 1 (c.length : Int) < (c ++ [0]).length := by simp; omega
  generalize hcell : (c ++ [0])[(i % max 1 (c.length : Int)).toNat]'(by omega) = cell
  have hix : ∀ M, ixD (.lst (c.map .int ++ [.int 0])) (.int (i % max 1 (c.length : Int))) M = .ok (.int cell) M := fun M => ix_get (l := (c ++ [0]).map .int) (by simp) (by
    rw [at_nat k0 (by simpa using hk), List.getElem_map, hcell])
  by_cases hg : (1000000000000000000 : Int) ≤ cell
  · have hne : c ≠ [] := by
      intro e
      subst e
      simp at hcell
      omega
    have hl : 0 < c.length := List.length_pos_iff.mpr hne
    have hl' : (0 : Int) < c.length := by omega
    refine ⟨cell % b, memS (c.set (i % (c.length : Int)).toNat (cell / b)) s i X, Int.emod_nonneg _ (by omega), Int.emod_lt_of_pos _ hb, ⟨_, _, _, by simpa using hc, rfl⟩, ?_⟩
    simp [LIM, nextB, ixS1, ixS2, hadd, hlen, hmax, hm, hix, pow_10, hg, hb, h2, hl, setSc (c := c) (s := s) (i := i) (X := X) (v := cell / b) (Int.emod_nonneg i (Int.ne_of_gt hl')) (Int.emod_lt_of_pos i hl'), fin_memS]
  · refine ⟨(((s * 48271 + cell * 69621 + 11) % 2147483647) / 7) % b, memS c ((s * 48271 + cell * 69621 + 11) % 2147483647) (i + 1) X, Int.emod_nonneg _ (by omega), Int.emod_lt_of_pos _ hb, ⟨_, _, _, hc, rfl⟩, ?_⟩
    simp [LIM, nextB, ixS0, ixS1, ixS2, hadd, hlen, hmax, hm, hix, pow_10, hg, hb, h2, mul_a, mul_b, setS0, setS2, fin_memS]
end RI

namespace RI
open PySem L2
/-! ### loops by an invariant over a pure state -/
/-- how a turn ends: on, with a new state; or out of the loop -/
def TurnOk {St R : Type} (I : St → EV → Mem → Prop) (Out : R → Fl → Mem → Prop) (x : Res Fl) : Sum R St → Prop
  | .inl y => ∃ f M', x = .ok f M' ∧ Out y f M' ∧ (match f with | .ret _ => True | .rse _ _ => True | _ => False)
  | .inr s' => ∃ r' M', (x = .ok (.next r') M' ∨ x = .ok (.cont r') M') ∧ I s' r' M'
def LoopOk {St R : Type} (I : St → EV → Mem → Prop) (Out : R → Fl → Mem → Prop) (x : Res Fl) : Sum R St → Prop
  | .inl y => ∃ f M', x = .ok f M' ∧ Out y f M' ∧ (match f with | .ret _ => True | .rse _ _ => True | _ => False)
  | .inr s' => ∃ r' M', x = .ok (.next r') M' ∧ I s' r' M'
theorem LoopOk.turn {St R : Type} {I : St → EV → Mem → Prop} {Out : R → Fl → Mem → Prop} {x : Res Fl} {s : Sum R St} (h : LoopOk I Out x s) : TurnOk I Out x s := by
  cases s with
  | inl y => exact h
  | inr s => obtain ⟨r', M', e, i⟩ := h; exact ⟨r', M', .inl e, i⟩
def foldS {St R A : Type} (nx : St → A → Sum R St) : St → List A → Sum R St
  | s, [] => .inr s
  | s, a :: l => match nx s a with
    | .inl y => .inl y
    | .inr s' => foldS nx s' l
theorem foldS_app {St R A : Type} (nx : St → A → Sum R St) : ∀ (l m : List A) (s : St), foldS nx s (l ++ m) = match foldS nx s l with
    | .inl y => .inl y
    | .inr s' => foldS nx s' m
  | [], m, s => rfl
  | a :: l, m, s => by
    simp only [List.cons_append, foldS]
    cases nx s a with
    | inl y => rfl
    | inr s' => exact foldS_app nx l m s'
theorem for_ok {St R A : Type} {gd : Gd} {g : MG} {b : MS} {F : FT} {enc : A → D} (I : St → EV → Mem → Prop) (Out : R → Fl → Mem → Prop) (nx : St → A → Sum R St) (hgd : ∀ s r M, I s r M → Gd.ok gd M = true)
    : ∀ (l : List A) (h : ∀ s a r M, a ∈ l → I s r M → TurnOk I Out ((g F (enc a) r M).bind fun r1 M1 => b F r1 M1) (nx s a)) (s : St) (r : EV) (M : Mem), I s r M → LoopOk I Out (forG gd g b F (l.map enc) r M) (foldS nx s l)
  | [], h, s, r, M, i => ⟨r, M, by simp only [List.map_nil, forG, hgd s r M i, if_true], i⟩
  | a :: l, h, s, r, M, i => by
    have h1 := h s a r M List.mem_cons_self i
    have hg := hgd s r M i
    simp only [List.map_cons, forG, hg, if_true, foldS]
    cases e : nx s a with
    | inl y =>
      rw [e] at h1
      obtain ⟨f, M', e1, o, hf⟩ := h1
      refine ⟨f, M', ?_, o, hf⟩
      rw [← bind_assoc, e1, Res.bind_ok]
      cases f <;> first | rfl | exact hf.elim
    | inr s' =>
      rw [e] at h1
      obtain ⟨r', M', e1, i'⟩ := h1
      have ih := for_ok I Out nx hgd l (fun s a r M ha => h s a r M (List.mem_cons_of_mem _ ha)) s' r' M' i'
      rw [← bind_assoc]
      rcases e1 with e1 | e1 <;> (rw [e1, Res.bind_ok]; exact ih)
/-- a comprehension over what does not change -/
theorem lc_ok {A : Type} {gd : Gd} {g : MG} {mt : MT} {me : ME} {F : FT} {r : EV} {enc : A → D} {M : Mem} (hgd : Gd.ok gd M = true) (keep : A → Bool) (val : A → D) : ∀ (l : List A)
    (h : ∀ a ∈ l, ∃ r1, g F (enc a) r M = .ok r1 M ∧ mt F r1 M = .ok (keep a) M ∧ (keep a = true → me F r1 M = .ok (val a) M)), lcG gd g mt me F r (l.map enc) M = .ok ((l.filter keep).map val) M
  | [], h => by simp only [List.map_nil, lcG, hgd, if_true]; rfl
  | a :: l, h => by
    obtain ⟨r1, e1, e2, e3⟩ := h a List.mem_cons_self
    have ih := lc_ok hgd keep val l fun a ha => h a (List.mem_cons_of_mem _ ha)
    simp only [List.map_cons, lcG, hgd, if_true, e1, Res.bind_ok, e2]
    cases hk : keep a with
    | true =>
      simp only [if_true, e3 hk, Res.bind_ok, ih, List.filter_cons_of_pos hk, List.map_cons]
    | false =>
      have : (a :: l).filter keep = l.filter keep := List.filter_cons_of_neg (by simp [hk])
      simp only [Bool.false_eq_true, if_false, ih, this]
/-- a comprehension without a test -/
theorem lc_all {A : Type} {gd : Gd} {g : MG} {me : ME} {F : FT} {r : EV} {enc : A → D} {M : Mem} (hgd : Gd.ok gd M = true) (val : A → D) (l : List A)
    (h : ∀ a ∈ l, ∃ r1, g F (enc a) r M = .ok r1 M ∧ me F r1 M = .ok (val a) M) : lcG gd g mYes me F r (l.map enc) M = .ok (l.map val) M := by
  have := lc_ok (mt := mYes) (g := g) (me := me) (F := F) (r := r) (enc := enc) hgd (fun _ => true) val l fun a ha => by
    obtain ⟨r1, e1, e2⟩ := h a ha
    exact ⟨r1, e1, rfl, fun _ => e2⟩
  rw [this]
  congr 2
  rw [List.filter_eq_self.mpr (fun _ _ => rfl)]
/-! while -/
inductive Nx (St R : Type) where
  | stop | ret (x : R) | go (s : St)
def iterN {St R : Type} (nx : St → Nx St R) : Nat → St → Option (Sum R St)
  | 0, _ => none
  | n + 1, s => match nx s with
    | .stop => some (.inr s)
    | .ret x => some (.inl x)
    | .go s' => iterN nx n s'
theorem while_ok {St R : Type} {c : MT} {b : MS} {F : FT} (I : St → EV → Mem → Prop) (Out : R → Fl → Mem → Prop) (nx : St → Nx St R)
    (h : ∀ s r M, I s r M → match nx s with
      | .stop => c F r M = .ok false M
      | .ret x => ∃ M1, c F r M = .ok true M1 ∧ TurnOk I Out (b F r M1) (.inl x)
      | .go s' => ∃ M1, c F r M = .ok true M1 ∧ TurnOk I Out (b F r M1) (.inr s')) : ∀ (N K : Nat) (s : St) (r : EV) (M : Mem) (res : Sum R St), N ≤ K → I s r M → iterN nx N s = some res → LoopOk I Out (whileN c b F K r M) res
  | 0, K, s, r, M, res, _, _, e => by cases e
  | N + 1, 0, s, r, M, res, hk, _, e => by omega
  | N + 1, K + 1, s, r, M, res, hk, i, e => by
    have h1 := h s r M i
    simp only [iterN] at e
    cases hn : nx s with
    | stop =>
      rw [hn] at h1 e
      cases e
      exact ⟨r, M, by simp only [whileN, h1, Res.toS_ok, Bool.false_eq_true, if_false], i⟩
    | ret x =>
      rw [hn] at h1 e
      cases e
      obtain ⟨M1, e1, f, M', e2, o, hf⟩ := h1
      refine ⟨f, M', ?_, o, hf⟩
      simp only [whileN, e1, Res.toS_ok, if_true, e2, Res.bind_ok]
      cases f <;> first | rfl | exact hf.elim
    | go s' =>
      rw [hn] at h1 e
      obtain ⟨M1, e1, r', M', e2, i'⟩ := h1
      have ih := while_ok I Out nx h N K s' r' M' res (by omega) i' e
      rcases e2 with e2 | e2 <;> (simp only [whileN, e1, Res.toS_ok, if_true, e2, Res.bind_ok]; exact ih)
end RI

/-! a search level by level: the least of the shortest rows of numbers at whose end something is found -/
namespace BF
structure Gr where
  S : Type
  eq : DecidableEq S
  st : S → Int → S
  stop : S → Int → Bool
instance (G : Gr) : DecidableEq G.S := G.eq
abbrev Wt (G : Gr) := G.S × List Int
def scan (G : Gr) : List (Wt G × Int) → List G.S → List (Wt G) → Sum (List Int) (List G.S × List (Wt G))
  | [], seen, later => .inr (seen, later)
  | (q, p) :: cs, seen, later =>
    if G.stop q.1 p = true then .inl (q.2 ++ [p])
    else if G.st q.1 p ∈ seen then scan G cs seen later
    else scan G cs (seen ++ [G.st q.1 p]) (later ++ [(G.st q.1 p, q.2 ++ [p])])
def cands {A : Type} (ps : List Int) : List A → List (A × Int)
  | [] => []
  | q :: qs => ps.map (fun p => (q, p)) ++ cands ps qs
theorem mem_cands {A : Type} {ps : List Int} {c : A × Int} : ∀ {wt : List A}, c ∈ cands ps wt ↔ c.1 ∈ wt ∧ c.2 ∈ ps
  | [] => by simp [cands]
  | q :: qs => by
    simp only [cands, List.mem_append, List.mem_map, mem_cands (wt := qs), List.mem_cons]
    constructor
    · rintro (⟨p, hp, rfl⟩ | ⟨h1, h2⟩)
      · exact ⟨.inl rfl, hp⟩
      · exact ⟨.inr h1, h2⟩
    · rintro ⟨h1 | h1, h2⟩
      · exact .inl ⟨c.2, h2, by rw [← h1]⟩
      · exact .inr ⟨h1, h2⟩
theorem scan_app (G : Gr) : ∀ (a b : List (Wt G × Int)) (seen : List G.S) (later : List (Wt G)), scan G (a ++ b) seen later = match scan G a seen later with
    | .inl r => .inl r
    | .inr z => scan G b z.1 z.2
  | [], b, seen, later => rfl
  | (q, p) :: a, b, seen, later => by
    simp only [List.cons_append, scan]
    split
    · rfl
    · split
      · exact scan_app G a b _ _
      · exact scan_app G a b _ _
def bfs (G : Gr) (ps : List Int) : Nat → List G.S → List (Wt G) → Option (Option (List Int))
  | 0, _, _ => none
  | N + 1, seen, wt => if wt.isEmpty = true then some none else match scan G (cands ps wt) seen [] with
    | .inl r => some (some r)
    | .inr z => bfs G ps N z.1 z.2
/-! what stays -/
structure Good (G : Gr) (P : G.S → Prop) (L : Nat) (seen : List G.S) (later : List (Wt G)) : Prop where
  nd : seen.Nodup
  p : ∀ a ∈ seen, P a
  l : ∀ q ∈ later, P q.1 ∧ q.2.length = L
  le : later.length ≤ seen.length
theorem scan_good {G : Gr} {P : G.S → Prop} {L : Nat} : ∀ (cs : List (Wt G × Int)) (seen : List G.S) (later : List (Wt G)) (z : List G.S × List (Wt G)),
    (∀ c ∈ cs, P (G.st c.1.1 c.2) ∧ c.1.2.length = L) → Good G P (L + 1) seen later → scan G cs seen later = .inr z → Good G P (L + 1) z.1 z.2
  | [], seen, later, z, _, g, h => by cases h; exact g
  | (q, p) :: cs, seen, later, z, hc, g, h => by
    have hc' : ∀ c ∈ cs, P (G.st c.1.1 c.2) ∧ c.1.2.length = L := fun c h => hc c (List.mem_cons_of_mem _ h)
    obtain ⟨hP, hL⟩ := hc (q, p) List.mem_cons_self
    simp only [scan] at h
    split at h
    · cases h
    · split at h
      · exact scan_good cs seen later z hc' g h
      · rename_i hn
        refine scan_good cs _ _ z hc' ⟨?_, ?_, ?_, ?_⟩ h
        · rw [List.nodup_append]
          refine ⟨g.nd, by simp, ?_⟩
          intro x hx y hy e
          simp only [List.mem_singleton] at hy
          subst hy; subst e; exact hn hx
        · intro b hb
          rcases List.mem_append.mp hb with hb | hb
          · exact g.p b hb
          · simp only [List.mem_singleton] at hb
            subst hb; exact hP
        · intro q' hq
          rcases List.mem_append.mp hq with hq | hq
          · exact g.l q' hq
          · simp only [List.mem_singleton] at hq
            subst hq; exact ⟨hP, by simp [hL]⟩
        · have := g.le
          simp; omega
theorem scan_grow {G : Gr} : ∀ (cs : List (Wt G × Int)) (seen : List G.S) (later : List (Wt G)) (z : List G.S × List (Wt G)), scan G cs seen later = .inr z → z.1.length + later.length = seen.length + z.2.length
  | [], seen, later, z, h => by cases h; rfl
  | (q, p) :: cs, seen, later, z, h => by
    simp only [scan] at h
    split at h
    · cases h
    · split at h
      · exact scan_grow cs seen later z h
      · have := scan_grow cs _ _ z h
        simp at this; omega
/-- closed under steps, and how many there are -/
structure Bd (G : Gr) (ps : List Int) (P : G.S → Prop) (K : Nat) : Prop where
  st : ∀ a p, P a → p ∈ ps → P (G.st a p)
  card : ∀ l : List G.S, l.Nodup → (∀ a ∈ l, P a) → l.length ≤ K
theorem cands_good {G : Gr} {ps : List Int} {P : G.S → Prop} {K L : Nat} (B : Bd G ps P K) {wt : List (Wt G)} (hw : ∀ q ∈ wt, P q.1 ∧ q.2.length = L) : ∀ c ∈ cands ps wt, P (G.st c.1.1 c.2) ∧ c.1.2.length = L := fun c hc => by
  obtain ⟨h1, h2⟩ := mem_cands.mp hc
  exact ⟨B.st _ _ (hw _ h1).1 h2, (hw _ h1).2⟩
theorem good0 {G : Gr} {P : G.S → Prop} {L : Nat} {seen : List G.S} (nd : seen.Nodup) (hP : ∀ a ∈ seen, P a) : Good G P (L + 1) seen [] := ⟨nd, hP, (fun q hq => by cases hq), Nat.zero_le _⟩
theorem bfs_ends {G : Gr} {ps : List Int} {P : G.S → Prop} {K : Nat} (B : Bd G ps P K) : ∀ (N L : Nat) (seen : List G.S) (wt : List (Wt G)), seen.Nodup → (∀ a ∈ seen, P a) → (∀ q ∈ wt, P q.1 ∧ q.2.length = L) → K + 1 < seen.length + N → ∃ res, bfs G ps N seen wt = some res
  | 0, L, seen, wt, nd, hP, hw, h => by
    have := B.card seen nd hP
    omega
  | N + 1, L, seen, wt, nd, hP, hw, h => by
    unfold bfs
    cases wt with
    | nil => exact ⟨none, rfl⟩
    | cons q qs =>
      simp only [List.isEmpty_cons, Bool.false_eq_true, if_false]
      cases e : scan G (cands ps (q :: qs)) seen [] with
      | inl r => exact ⟨some r, rfl⟩
      | inr z =>
        have g' := scan_good _ seen [] z (cands_good B hw) (good0 nd hP) e
        have gr := scan_grow _ _ _ _ e
        simp at gr
        obtain ⟨s, l⟩ := z
        cases l with
        | nil =>
          have hc := B.card seen nd hP
          cases N with
          | zero => omega
          | succ N => exact ⟨none, rfl⟩
        | cons q' qs' =>
          simp at gr
          exact bfs_ends B N (L + 1) s (q' :: qs') g'.nd g'.p g'.l (by omega)
/-! what is found -/
def run (G : Gr) : List Int → G.S → G.S
  | [], s => s
  | u :: us, s => run G us (G.st s u)
theorem run_snoc (G : Gr) : ∀ (us : List Int) (p : Int) (s : G.S), run G (us ++ [p]) s = G.st (run G us s) p
  | [], p, s => rfl
  | u :: us, p, s => run_snoc G us p (G.st s u)
theorem scan_inl {G : Gr} : ∀ (cs : List (Wt G × Int)) (seen : List G.S) (later : List (Wt G)) (r : List Int), scan G cs seen later = .inl r → ∃ c ∈ cs, G.stop c.1.1 c.2 = true ∧ r = c.1.2 ++ [c.2]
  | [], _, _, r, h => by cases h
  | (q, p) :: cs, seen, later, r, h => by
    simp only [scan] at h
    split at h
    · rename_i hs
      cases h
      exact ⟨(q, p), List.mem_cons_self, hs, rfl⟩
    · split at h
      · obtain ⟨c, hc, h'⟩ := scan_inl cs _ _ r h
        exact ⟨c, List.mem_cons_of_mem _ hc, h'⟩
      · obtain ⟨c, hc, h'⟩ := scan_inl cs _ _ r h
        exact ⟨c, List.mem_cons_of_mem _ hc, h'⟩
/-- Q: of states and the rows to them -/
theorem scan_tr {G : Gr} {Q : Wt G → Prop} : ∀ (cs : List (Wt G × Int)) (seen : List G.S) (later : List (Wt G)) (z : List G.S × List (Wt G)), (∀ c ∈ cs, G.stop c.1.1 c.2 = false → Q (G.st c.1.1 c.2, c.1.2 ++ [c.2])) → (∀ q ∈ later, Q q) → scan G cs seen later = .inr z → ∀ q ∈ z.2, Q q
  | [], seen, later, z, _, hl, h => by cases h; exact hl
  | (q, p) :: cs, seen, later, z, hc, hl, h => by
    have hc' := fun c h => hc c (List.mem_cons_of_mem _ h)
    simp only [scan] at h
    split at h
    · cases h
    · rename_i hs
      split at h
      · exact scan_tr cs seen later z hc' hl h
      · refine scan_tr cs _ _ z hc' ?_ h
        intro q' hq
        rcases List.mem_append.mp hq with hq | hq
        · exact hl q' hq
        · simp only [List.mem_singleton] at hq
          subst hq
          exact hc (q, p) List.mem_cons_self (by simpa using hs)
theorem bfs_tr {G : Gr} {ps : List Int} {Q : Wt G → Prop} (hQ : ∀ q p, Q q → p ∈ ps → G.stop q.1 p = false → Q (G.st q.1 p, q.2 ++ [p])) : ∀ (N : Nat) (seen : List G.S) (wt : List (Wt G)) (r : List Int), (∀ q ∈ wt, Q q) → bfs G ps N seen wt = some (some r) → ∃ q p, Q q ∧ p ∈ ps ∧ G.stop q.1 p = true ∧ r = q.2 ++ [p]
  | 0, _, _, _, _, h => by cases h
  | N + 1, seen, wt, r, hw, h => by
    unfold bfs at h
    split at h
    · cases h
    · cases e : scan G (cands ps wt) seen [] with
      | inl r' =>
        rw [e] at h
        cases h
        obtain ⟨c, hc, h1, h2⟩ := scan_inl _ _ _ _ e
        obtain ⟨m1, m2⟩ := mem_cands.mp hc
        exact ⟨c.1, c.2, hw _ m1, m2, h1, h2⟩
      | inr z =>
        rw [e] at h
        refine bfs_tr hQ N z.1 z.2 r ?_ h
        exact scan_tr _ _ _ z (fun c hc hs => hQ c.1 c.2 (hw _ (mem_cands.mp hc).1) (mem_cands.mp hc).2 hs) (fun q hq => by cases hq) e
/-- an invariant under which nothing is found -/
theorem bfs_none {G : Gr} {ps : List Int} {I : G.S → Prop} (hI : ∀ s p, I s → p ∈ ps → I (G.st s p) ∧ G.stop s p = false) (N : Nat) (seen : List G.S) (wt : List (Wt G)) (res : Option (List Int)) (hw : ∀ q ∈ wt, I q.1) (h : bfs G ps N seen wt = some res) : res = none := by
  cases res with
  | none => rfl
  | some r =>
    obtain ⟨q, p, h1, h2, h3, _⟩ := bfs_tr (Q := fun q => I q.1) (fun q p hq hp _ => (hI q.1 p hq hp).1) N seen wt r hw h
    rw [(hI q.1 p h1 h2).2] at h3
    cases h3
/-! the order of rows -/
def lle : List Int → List Int → Bool
  | [], _ => true
  | _ :: _, [] => false
  | x :: xs, y :: ys => decide (x < y) || (decide (x = y) && lle xs ys)
theorem lle_refl : ∀ a, lle a a = true
  | [] => rfl
  | x :: xs => by simp [lle, lle_refl xs]
theorem lle_trans : ∀ a b c, lle a b = true → lle b c = true → lle a c = true
  | [], _, _, _, _ => rfl
  | x :: xs, [], _, h, _ => by simp [lle] at h
  | x :: xs, y :: ys, [], _, h => by simp [lle] at h
  | x :: xs, y :: ys, z :: zs, h1, h2 => by
    simp only [lle, Bool.or_eq_true, Bool.and_eq_true, decide_eq_true_eq] at h1 h2 ⊢
    rcases h1 with h1 | ⟨h1, h1'⟩
    · rcases h2 with h2 | ⟨h2, _⟩
      · left; omega
      · left; omega
    · rcases h2 with h2 | ⟨h2, h2'⟩
      · left; omega
      · right; exact ⟨by omega, lle_trans xs ys zs h1' h2'⟩
theorem lle_snoc : ∀ (a b : List Int) (p : Int), lle a b = true → a.length = b.length → lle (a ++ [p]) (b ++ [p]) = true
  | [], [], p, _, _ => by simp [lle]
  | [], _ :: _, _, _, h => by simp at h
  | _ :: _, [], _, _, h => by simp at h
  | x :: xs, y :: ys, p, h, hl => by
    simp only [lle, List.cons_append, Bool.or_eq_true, Bool.and_eq_true, decide_eq_true_eq] at h ⊢
    rcases h with h | ⟨h1, h2⟩
    · exact .inl h
    · exact .inr ⟨h1, lle_snoc xs ys p h2 (by simpa using hl)⟩
theorem lle_snoc2 : ∀ (a : List Int) (p q : Int), p ≤ q → lle (a ++ [p]) (a ++ [q]) = true
  | [], p, q, h => by
    simp only [List.nil_append, lle, Bool.or_eq_true, Bool.and_eq_true, decide_eq_true_eq, and_true]
    omega
  | x :: xs, p, q, h => by simp [lle, lle_snoc2 xs p q h]
/-- before, strictly, of rows of one length: all that is put behind stays so -/
def llt (a b : List Int) : Prop := lle a b = true ∧ a ≠ b
theorem llt_snoc : ∀ (a b : List Int) (p q : Int), llt a b → a.length = b.length → lle (a ++ [p]) (b ++ [q]) = true
  | [], [], p, q, h, _ => absurd rfl h.2
  | [], _ :: _, _, _, _, h => by simp at h
  | _ :: _, [], _, _, _, h => by simp at h
  | x :: xs, y :: ys, p, q, ⟨h, hn⟩, hl => by
    simp only [lle, List.cons_append, Bool.or_eq_true, Bool.and_eq_true, decide_eq_true_eq] at h ⊢
    rcases h with h | ⟨h1, h2⟩
    · exact .inl h
    · exact .inr ⟨h1, llt_snoc xs ys p q ⟨h2, fun e => hn (by rw [h1, e])⟩ (by simpa using hl)⟩
theorem lle_anti : ∀ a b, lle a b = true → lle b a = true → a = b
  | [], [], _, _ => rfl
  | [], _ :: _, _, h => by simp [lle] at h
  | _ :: _, [], h, _ => by simp [lle] at h
  | x :: xs, y :: ys, h1, h2 => by
    simp only [lle, Bool.or_eq_true, Bool.and_eq_true, decide_eq_true_eq] at h1 h2
    have : x = y := by omega
    subst this
    have e1 : lle xs ys = true := by rcases h1 with h | h; omega; exact h.2
    have e2 : lle ys xs = true := by rcases h2 with h | h; omega; exact h.2
    rw [lle_anti xs ys e1 e2]
abbrev rowOf {G : Gr} (c : Wt G × Int) : List Int := c.1.2 ++ [c.2]
/-- rows, all of one length, ascending -/
abbrev Asc (l : List (List Int)) : Prop := l.Pairwise llt
theorem cands_asc {G : Gr} {ps : List Int} (hps : ps.Pairwise (· < ·)) {L : Nat} : ∀ {wt : List (Wt G)}, (∀ q ∈ wt, q.2.length = L) → Asc (wt.map (·.2)) → Asc ((cands ps wt).map rowOf)
  | [], _, _ => List.Pairwise.nil
  | q :: qs, hl, ha => by
    simp only [cands, List.map_append, List.map_map]
    simp only [List.map_cons, Asc, List.pairwise_cons] at ha
    show List.Pairwise llt _
    rw [List.pairwise_append]
    refine ⟨?_, cands_asc hps (fun q h => hl q (List.mem_cons_of_mem _ h)) ha.2, ?_⟩
    · rw [List.pairwise_map]
      refine hps.imp ?_
      intro a b hab
      refine ⟨lle_snoc2 q.2 a b (by omega), fun e => ?_⟩
      have := List.append_cancel_left e
      simp at this
      omega
    · intro x hx y hy
      simp only [List.mem_map, Function.comp] at hx hy
      obtain ⟨p, hp, rfl⟩ := hx
      obtain ⟨c, hc, rfl⟩ := hy
      have hm := (mem_cands.mp hc).1
      have h1 := ha.1 c.1.2 (List.mem_map.mpr ⟨c.1, hm, rfl⟩)
      have h2 : q.2.length = c.1.2.length := by rw [hl q List.mem_cons_self, hl _ (List.mem_cons_of_mem _ hm)]
      refine ⟨llt_snoc _ _ _ _ h1 h2, fun e => ?_⟩
      have := List.append_inj_left e h2
      exact h1.2 this
/-- what a scan leaves: sorted; each candidate's state was seen or is there with a row not behind -/
theorem scan_least {G : Gr} : ∀ (cs : List (Wt G × Int)) (seen0 seen : List G.S) (later : List (Wt G)) (z : List G.S × List (Wt G)), Asc (later.map (·.2) ++ cs.map rowOf) → (∀ b ∈ seen, b ∈ seen0 ∨ ∃ q ∈ later, q.1 = b) → scan G cs seen later = .inr z →
    Asc (z.2.map (·.2)) ∧ (∀ q ∈ later, q ∈ z.2) ∧ (∀ b ∈ seen, b ∈ z.1) ∧ (∀ b ∈ z.1, b ∈ seen0 ∨ ∃ q ∈ z.2, q.1 = b) ∧ ∀ c ∈ cs, G.stop c.1.1 c.2 = false ∧ G.st c.1.1 c.2 ∈ z.1 ∧ (G.st c.1.1 c.2 ∈ seen0 ∨ ∃ q ∈ z.2, q.1 = G.st c.1.1 c.2 ∧ lle q.2 (rowOf c) = true)
  | [], seen0, seen, later, z, ha, hs, h => by
    cases h
    exact ⟨by simpa using ha, fun q h => h, fun b h => h, hs, fun c h => by cases h⟩
  | (q, p) :: cs, seen0, seen, later, z, ha, hs, h => by
    simp only [scan] at h
    split at h
    · cases h
    · rename_i hstop
      have hstop' : G.stop q.1 p = false := by simpa using hstop
      have ha0 : Asc (later.map (·.2) ++ rowOf (q, p) :: cs.map rowOf) := ha
      split at h
      · rename_i hin
        have ha' : Asc (later.map (·.2) ++ cs.map rowOf) := ha0.sublist (List.Sublist.append_left (List.sublist_cons_self _ _) _)
        obtain ⟨h1, h2, h3, h4, h5⟩ := scan_least cs seen0 seen later z ha' hs h
        refine ⟨h1, h2, h3, h4, fun c hc => ?_⟩
        rcases List.mem_cons.mp hc with rfl | hc
        · refine ⟨hstop', h3 _ hin, ?_⟩
          rcases hs _ hin with hb | ⟨q', hq', e⟩
          · exact .inl hb
          · refine .inr ⟨q', h2 q' hq', e, ?_⟩
            have := (List.pairwise_append.mp ha0).2.2 q'.2 (List.mem_map.mpr ⟨q', hq', rfl⟩) (rowOf (q, p)) List.mem_cons_self
            exact this.1
        · exact h5 c hc
      · rename_i hin
        have ha' : Asc ((later ++ [(G.st q.1 p, q.2 ++ [p])]).map (·.2) ++ cs.map rowOf) := by
          simpa [List.append_assoc] using ha0
        have hs' : ∀ b ∈ seen ++ [G.st q.1 p], b ∈ seen0 ∨ ∃ q' ∈ later ++ [(G.st q.1 p, q.2 ++ [p])], q'.1 = b := by
          intro b hb
          rcases List.mem_append.mp hb with hb | hb
          · rcases hs b hb with hb | ⟨q', hq', e⟩
            · exact .inl hb
            · exact .inr ⟨q', List.mem_append_left _ hq', e⟩
          · simp only [List.mem_singleton] at hb
            exact .inr ⟨_, List.mem_append_right _ (List.mem_singleton.mpr rfl), hb.symm⟩
        obtain ⟨h1, h2, h3, h4, h5⟩ := scan_least cs seen0 _ _ z ha' hs' h
        refine ⟨h1, fun q' hq' => h2 q' (List.mem_append_left _ hq'), fun b hb => h3 b (List.mem_append_left _ hb), h4, fun c hc => ?_⟩
        rcases List.mem_cons.mp hc with rfl | hc
        · exact ⟨hstop', h3 _ (List.mem_append_right _ (List.mem_singleton.mpr rfl)), .inr ⟨_, h2 _ (List.mem_append_right _ (List.mem_singleton.mpr rfl)), rfl, lle_refl _⟩⟩
        · exact h5 c hc
theorem scan_inl_least {G : Gr} : ∀ (cs : List (Wt G × Int)) (seen : List G.S) (later : List (Wt G)) (r : List Int), Asc (cs.map rowOf) → scan G cs seen later = .inl r → ∀ c ∈ cs, G.stop c.1.1 c.2 = true → lle r (rowOf c) = true
  | [], _, _, _, _, h => by cases h
  | (q, p) :: cs, seen, later, r, ha, h => by
    simp only [List.map_cons, Asc, List.pairwise_cons] at ha
    simp only [scan] at h
    intro c hc hs
    split at h
    · cases h
      rcases List.mem_cons.mp hc with rfl | hc
      · exact lle_refl _
      · exact (ha.1 _ (List.mem_map.mpr ⟨c, hc, rfl⟩)).1
    · rename_i hn
      rcases List.mem_cons.mp hc with rfl | hc
      · exact absurd hs hn
      · split at h
        · exact scan_inl_least cs _ _ r ha.2 h c hc hs
        · exact scan_inl_least cs _ _ r ha.2 h c hc hs
/-- what is found is not longer than any row that finds, and not behind those of its length -/
theorem bfs_least {G : Gr} {ps : List Int} (hps : ps.Pairwise (· < ·)) (s0 : G.S) (us0 : List Int) (p0 : Int) (hus : ∀ u ∈ us0, u ∈ ps) (hp0 : p0 ∈ ps) (hst : G.stop (run G us0 s0) p0 = true) : ∀ (N L : Nat) (seen : List G.S) (wt : List (Wt G)) (res : Option (List Int)),
    L ≤ us0.length → (∀ b ∈ seen, (∃ q ∈ wt, q.1 = b) ∨ ∀ p ∈ ps, G.stop b p = false ∧ G.st b p ∈ seen) → (∀ q ∈ wt, q.2.length = L) → Asc (wt.map (·.2)) →
    (∀ us, us.length < L → (∀ u ∈ us, u ∈ ps) → run G us s0 ∈ seen ∧ ∀ p ∈ ps, G.stop (run G us s0) p = false) →
    (∀ us, us.length = L → (∀ u ∈ us, u ∈ ps) → run G us s0 ∈ seen ∧ ((∀ p ∈ ps, G.stop (run G us s0) p = false) ∧ (∀ p ∈ ps, G.st (run G us s0) p ∈ seen) ∨ ∃ q ∈ wt, q.1 = run G us s0 ∧ lle q.2 us = true)) →
    bfs G ps N seen wt = some res → ∃ r, res = some r ∧ (r.length < us0.length + 1 ∨ (r.length = us0.length + 1 ∧ lle r (us0 ++ [p0]) = true))
  | 0, L, seen, wt, res, _, _, _, _, _, _, h => by cases h
  | N + 1, L, seen, wt, res, hL, hx, hl, ha, hr, hr', h => by
    unfold bfs at h
    have hlen : ∀ r, scan G (cands ps wt) seen [] = .inl r → r.length = L + 1 := by
      intro r e
      obtain ⟨c, hc, _, rfl⟩ := scan_inl _ _ _ _ e
      simp [hl _ (mem_cands.mp hc).1]
    cases hwt : wt with
    | nil =>
      exfalso
      subst hwt
      have cl : ∀ (us : List Int) (s : G.S), (∀ u ∈ us, u ∈ ps) → s ∈ seen → run G us s ∈ seen := by
        intro us
        induction us with
        | nil => intro s _ hm; exact hm
        | cons u us ih =>
          intro s hu hm
          rcases hx _ hm with ⟨q, hq, _⟩ | hxp
          · cases hq
          · exact ih _ (fun x hx => hu x (List.mem_cons_of_mem _ hx)) (hxp u (hu u List.mem_cons_self)).2
      have hi : s0 ∈ seen := by
        cases hL0 : L with
        | zero => exact (hr' [] (by rw [hL0]; rfl) (fun u hu => by cases hu)).1
        | succ L' => exact (hr [] (by rw [hL0]; simp) (fun u hu => by cases hu)).1
      rcases hx _ (cl us0 s0 hus hi) with ⟨q, hq, _⟩ | hxp
      · cases hq
      · rw [(hxp p0 hp0).1] at hst; cases hst
    | cons q0 qs0 =>
      rw [hwt] at h
      simp only [List.isEmpty_cons, Bool.false_eq_true, if_false] at h
      rw [← hwt] at h
      have hasc := cands_asc hps hl ha
      cases e : scan G (cands ps wt) seen [] with
      | inl r =>
        rw [e] at h
        cases h
        refine ⟨r, rfl, ?_⟩
        have := hlen r e
        by_cases hlt : L < us0.length
        · left; omega
        · right
          have hLe : us0.length = L := by omega
          refine ⟨by omega, ?_⟩
          rcases (hr' us0 hLe hus).2 with ⟨hn, _⟩ | ⟨q, hq, e1, e2⟩
          · rw [hn p0 hp0] at hst; cases hst
          · have h1 := scan_inl_least _ _ _ r hasc e (q, p0) (mem_cands.mpr ⟨hq, hp0⟩) (by rw [e1]; exact hst)
            exact lle_trans _ _ _ h1 (lle_snoc _ _ _ e2 (by rw [hl q hq, hLe]))
      | inr z =>
        rw [e] at h
        have hasc' : Asc (([] : List (Wt G)).map (·.2) ++ (cands ps wt).map rowOf) := hasc
        obtain ⟨k1, k2, k3, k4, k5⟩ := scan_least (cands ps wt) seen seen [] z hasc' (fun b hb => .inl hb) e
        have hwt' : ∀ q ∈ wt, ∀ p ∈ ps, G.stop q.1 p = false ∧ G.st q.1 p ∈ z.1 ∧ (G.st q.1 p ∈ seen ∨ ∃ q' ∈ z.2, q'.1 = G.st q.1 p ∧ lle q'.2 (q.2 ++ [p]) = true) := fun q hq p hp => k5 (q, p) (mem_cands.mpr ⟨hq, hp⟩)
        have hall : ∀ b ∈ seen, ∀ p ∈ ps, G.stop b p = false ∧ G.st b p ∈ z.1 := by
          intro b hb p hp
          rcases hx b hb with ⟨q', hq', rfl⟩ | hxp
          · exact ⟨(hwt' q' hq' p hp).1, (hwt' q' hq' p hp).2.1⟩
          · exact ⟨(hxp p hp).1, k3 _ (hxp p hp).2⟩
        have hL' : L + 1 ≤ us0.length := by
          rcases Nat.lt_or_ge L us0.length with h' | h'
          · exact h'
          · have := (hall _ (hr' us0 (by omega) hus).1 p0 hp0).1
            rw [this] at hst; cases hst
        refine bfs_least hps s0 us0 p0 hus hp0 hst N (L + 1) z.1 z.2 res hL' ?_ ?_ k1 ?_ ?_ h
        · intro b hb
          rcases k4 b hb with hb | hb
          · exact .inr (hall b hb)
          · exact .inl hb
        · exact scan_tr (Q := fun q => q.2.length = L + 1) _ _ _ z (fun c hc _ => by
            simp [hl _ (mem_cands.mp hc).1]) (fun q hq => by cases hq) e
        · intro us hu hup
          rcases Nat.lt_or_ge us.length L with h' | h'
          · obtain ⟨g1, g2⟩ := hr us h' hup
            exact ⟨k3 _ g1, g2⟩
          · obtain ⟨g1, g2⟩ := hr' us (by omega) hup
            exact ⟨k3 _ g1, fun p hp => (hall _ g1 p hp).1⟩
        · intro us hu hup
          obtain ⟨us', p, rfl⟩ : ∃ us' p, us = us' ++ [p] := by
            rcases List.eq_nil_or_concat us with rfl | ⟨a, b, rfl⟩
            · simp at hu
            · exact ⟨a, b, by simp⟩
          simp only [List.length_append, List.length_singleton] at hu
          have hup' : ∀ u ∈ us', u ∈ ps := fun u hu => hup u (by simp [hu])
          have hp : p ∈ ps := hup p (by simp)
          rw [run_snoc]
          obtain ⟨g1, g2⟩ := hr' us' (by omega) hup'
          refine ⟨(hall _ g1 p hp).2, ?_⟩
          have old : G.st (run G us' s0) p ∈ seen → (∀ p' ∈ ps, G.stop (G.st (run G us' s0) p) p' = false) ∧ ∀ p' ∈ ps, G.st (G.st (run G us' s0) p) p' ∈ z.1 := fun hm => ⟨fun p' hp' => (hall _ hm p' hp').1, fun p' hp' => (hall _ hm p' hp').2⟩
          rcases g2 with ⟨g2, g3⟩ | ⟨q, hq, e1, e2⟩
          · exact .inl (old (g3 p hp))
          · rw [← e1] at old ⊢
            rcases (hwt' q hq p hp).2.2 with hm | ⟨q', hq', e3, e4⟩
            · exact .inl (old hm)
            · exact .inr ⟨q', hq', e3, lle_trans _ _ _ e4 (lle_snoc _ _ _ e2 (by rw [hl q hq]; omega))⟩
theorem bfs_least0 {G : Gr} {ps : List Int} (hps : ps.Pairwise (· < ·)) (s0 : G.S) (us0 : List Int) (p0 : Int) (hus : ∀ u ∈ us0, u ∈ ps) (hp0 : p0 ∈ ps) (hst : G.stop (run G us0 s0) p0 = true) (N : Nat) (res : Option (List Int)) (h : bfs G ps N [s0] [(s0, [])] = some res) : ∃ r, res = some r ∧ (r.length < us0.length + 1 ∨ (r.length = us0.length + 1 ∧ lle r (us0 ++ [p0]) = true)) := by
  refine bfs_least hps s0 us0 p0 hus hp0 hst N 0 [s0] [(s0, [])] res (Nat.zero_le _) ?_ ?_ ?_ ?_ ?_ h
  · intro b hb
    simp only [List.mem_singleton] at hb
    exact .inl ⟨_, List.mem_singleton.mpr rfl, hb.symm⟩
  · intro q hq
    simp only [List.mem_singleton] at hq
    subst hq; rfl
  · simp [Asc]
  · intro us hu; omega
  · intro us hu _
    have : us = [] := List.length_eq_zero_iff.mp hu
    subst this
    exact ⟨by simp [run], .inr ⟨_, List.mem_singleton.mpr rfl, rfl, rfl⟩⟩
theorem bfs_ends0 {G : Gr} {ps : List Int} {P : G.S → Prop} {K : Nat} (B : Bd G ps P K) (s0 : G.S) (h0 : P s0) (N : Nat) (hN : K < N) : ∃ res, bfs G ps N [s0] [(s0, [])] = some res :=
  bfs_ends B N 0 _ _ (by simp) (by intro a ha; simp only [List.mem_singleton] at ha; subst ha; exact h0) (by intro q hq; simp only [List.mem_singleton] at hq; subst hq; exact ⟨h0, rfl⟩) (by simp; omega)
end BF

namespace RI
open PySem L2 PySem.W
/-! ### the order of data, on rows of numbers -/
abbrev klt (a b : List (Int ⊕ List Nat)) : Bool := PyProof.Rows.lexLt PyProof.Rows.itemOrd a b
theorem klt_ii (i j : Int) (r t : List (Int ⊕ List Nat)) : klt (.inl i :: r) (.inl j :: t) = (decide (i < j) || (!decide (j < i) && klt r t)) := PyProof.Rows.lex_cons (O := PyProof.Rows.itemOrd) (Sum.inl i) (Sum.inl j) r t
theorem klt_self (a : List (Int ⊕ List Nat)) : klt a a = false := PyProof.Rows.lex_irrefl (O := PyProof.Rows.itemOrd) a
theorem klt_same (x : Int ⊕ List Nat) (r t : List (Int ⊕ List Nat)) : klt (x :: r) (x :: t) = klt r t := PyProof.Rows.lex_self (O := PyProof.Rows.itemOrd) x r t
abbrev pInts (a : List Int) : List PyData := D.toPs (a.map .int)
theorem toks_ints : ∀ (a b : List Int) (l m : List (Int ⊕ List Nat)), klt (keyToksAll (pInts a) ++ l) (keyToksAll (pInts b) ++ m) = if a = b then klt l m else !BF.lle b a
  | [], [], l, m => by
    simp only [pInts, List.map_nil, D.toPs, keyToksAll, List.cons_append, List.nil_append, klt_same, if_true]
  | [], y :: b, l, m => by
    simp only [pInts, List.map_nil, List.map_cons, D.toPs, keyToksAll, List.cons_append, List.nil_append, klt_ii]
    simp [BF.lle]
  | x :: a, [], l, m => by
    simp only [pInts, List.map_nil, List.map_cons, D.toPs, keyToksAll, List.cons_append, List.nil_append, klt_ii]
    simp [BF.lle]
  | x :: a, y :: b, l, m => by
    have ih := toks_ints a b l m
    simp only [pInts, List.map_cons, D.toPs, D.toP, keyToksAll, keyToks, List.cons_append, List.nil_append, klt_same, klt_ii, BF.lle] at ih ⊢
    rw [ih]
    by_cases h : x = y
    · subst h
      by_cases h' : a = b
      · simp [h']
      · simp [h']
    · by_cases h1 : x < y
      · have h2 : ¬ y < x := by omega
        simp [h, h1, h2, Ne.symm h]
      · have h2 : y < x := by omega
        simp [h, h1, h2]
theorem dlt_ints (a b : List Int) : dataLt (.tuple (pInts a)) (.tuple (pInts b)) = !BF.lle b a := by
  rw [dataLt_tuple]
  have := toks_ints a b [] []
  rw [List.append_nil, List.append_nil] at this
  show klt _ _ = _
  rw [this]
  by_cases h : a = b
  · subst h
    simp [klt_self, BF.lle_refl]
  · rw [if_neg h]
/-- (n, row) <= (m, row) -/
theorem le_pair (n m : Int) (a b : List Int) (M : Mem) : leD (.tup [.int n, .tup (a.map .int)]) (.tup [.int m, .tup (b.map .int)]) M = .ok (.bl (decide (n < m) || (decide (n = m) && BF.lle a b))) M := by
  have hal : alike (D.toP (.tup [.int n, .tup (a.map .int)])) (D.toP (.tup [.int m, .tup (b.map .int)])) = true := by
    have : ∀ a b : List Int, alikeAll (D.toPs (a.map .int)) (D.toPs (b.map .int)) = true := by
      intro a
      induction a with
      | nil => intro b; simp [D.toPs, alikeAll]
      | cons x a ih =>
        intro b
        cases b with
        | nil => simp [D.toPs, alikeAll]
        | cons y b => simp only [List.map_cons, D.toPs, D.toP, alikeAll, alike, ih b, Bool.and_self]
    simp only [D.toP, D.toPs, alike, alikeAll, this, Bool.and_self]
  have hdp : ((D.toP (.tup [.int n, .tup (a.map .int)])).depth.ble 60) = true := by
    have h1 : (D.toP (.tup (a.map .int))).depth ≤ 1 := by
      simp only [D.toP, PyData.depth]
      have := depth_map (fun i : Int => PyData.int i) 0 (fun _ => Nat.zero_le _) a
      rw [toPs_map]
      show PyData.depthAll (a.map fun i => PyData.int i) + 1 ≤ 1
      omega
    apply Nat.ble_eq_true_of_le
    simp only [D.toP, D.toPs, PyData.depth, PyData.depthAll] at h1 ⊢
    omega
  have hlt : dataLt (D.toP (.tup [.int m, .tup (b.map .int)])) (D.toP (.tup [.int n, .tup (a.map .int)])) = (decide (m < n) || (decide (m = n) && !BF.lle a b)) := by
    simp only [D.toP, D.toPs]
    rw [dataLt_tuple]
    show klt _ _ = _
    simp only [keyToksAll, keyToks, List.cons_append, List.nil_append, klt_same, klt_ii]
    have := toks_ints b a [.inl 0] [.inl 0]
    rw [this, klt_self]
    by_cases h : m = n
    · subst h
      by_cases h' : b = a
      · simp [h', BF.lle_refl]
      · simp [h']
    · by_cases h1 : m < n
      · simp [h1]
      · have h2 : n < m := by omega
        simp [h, h1, h2]
  simp only [leD, ordD, derefD, noObj_tup, noObjs_cons, noObj_int, noObjs_ints, noObjs_nil, D.noN, hal, hdp, Bool.and_self, if_true, hlt]
  congr 2
  by_cases h : n = m
  · subst h; simp
  · by_cases h1 : n < m
    · have : ¬ m < n := by omega
      simp [h1, this, Ne.symm h]
    · have : m < n := by omega
      simp [h, h1, this]
end RI

namespace K49
open PySem PySem.Spec PyProof.Rows L2 RI
def tExs : List Str := ["BadPageRule", "BadFrames"]
def tExm : List (Str × Str × Bool) := []
def topS (i : Nat) : Stmt := PySem.Challenge.pw_stephouse_k49_whole_fewest_faults.main.body.getD i (.Pass ⟨0, 0, 0, 0⟩)
/-! is_from -/
def n_0 : List Str := ["value", "low", "high"]
def b_0 : MS := (mRet (mAndV (mIsi .int (mVar 0)) (mAndV (mNotV (mIsi .bool (mVar 0))) (mChain leD leD (mVar 1) (mVar 0) (mVar 2)))))
/-! check_page_rule -/
def n_1 : List Str := ["value"]
def b_1 : MS := (mIfS (mOr (mNot (mTru (mIsi .str (mVar 0)))) (mTB (mB (inD true) (mVar 0) (mC (.tup [(.str [102, 105, 114, 115, 116]), (.str [108, 97, 116, 101, 108, 121]), (.str [115, 101, 99, 111, 110, 100])])))))
 (mRse "BadPageRule")
 mSkip)
/-! check_frames -/
def n_2 : List Str := ["value", "most"]
def b_2 : MS := (mIfS (mNot (mTru (mCall 0 (mCons (mVar 0) (mCons (mC (.int 1)) (mCons (mVar 1) mNil))))))
 (mRse "BadFrames")
 mSkip)
/-! check_uses -/
def fg_3_0 : MG := (gTp 2 (gsCons (gN 1) (gsCons (gN 2) gsNil)))
def fb_3_0 : MS := (mIfS (mNot (mTru (mCall 0 (mCons (mVar 2) (mCons (mC (.int 0)) (mCons (mC (.int 4)) mNil))))))
 mNever
 mSkip)
def n_3 : List Str := ["value", "place", "page"]
def b_3 : MS := (mSeq (mIfS (mOr (mNot (mTru (mIsi .tuple (mVar 0)))) (mTB (mB gtD (mBl lenD (mCons (mVar 0) mNil)) (mC (.int 200)))))
 mNever
 mSkip)
 (mFor (mEnum (mCons (mVar 0) mNil)) fg_3_0 fb_3_0))
/-! next_marked -/
def fg_4_0 : MG := (gTp 2 (gsCons (gN 4) (gsCons (gN 5) gsNil)))
def fb_4_0 : MS := (mIfS (mTB (mB (eqD false) (mB ixD (mVar 5) (mC (.int 0))) (mVar 2)))
 (mSeq (mAsg (mTup (mCons (mVar 2) (mCons (mC (.int 1)) mNil))) (gSb (mVar 3) (mVar 4)))
 (mRet (mTup (mCons (mBl toTupD (mCons (mVar 3) mNil)) (mCons (mC (.bl false)) mNil)))))
 mSkip)
def wc_4_1 : MT := (mTB (mB (eqD false) (mB ixD (mB ixD (mVar 3) (mC (.int 0))) (mC (.int 1))) (mC (.int 1))))
def wb_4_1 : MS := (mAsg (mB addD (mSl (mVar 3) (mPart (mC (.int 1))) mNoPart) (mLst (mCons (mTup (mCons (mB ixD (mB ixD (mVar 3) (mC (.int 0))) (mC (.int 0))) (mCons (mC (.int 0)) mNil))) mNil))) (gN 3))
def n_4 : List Str := ["frames", "held", "page", "row", "place", "own"]
def b_4 : MS := (mSeq (mAsg (mBl (toLstD true) (mCons (mVar 1) mNil)) (gN 3))
 (mSeq (mFor (mEnum (mCons (mVar 1) mNil)) fg_4_0 fb_4_0)
 (mSeq (mIfS (mTB (mB (eqD false) (mBl lenD (mCons (mVar 3) mNil)) (mVar 0)))
 (mSeq (mWhl wc_4_1 wb_4_1)
 (mAsg (mSl (mVar 3) (mPart (mC (.int 1))) mNoPart) (gN 3)))
 mSkip)
 (mRet (mTup (mCons (mBl toTupD (mCons (mB addD (mVar 3) (mLst (mCons (mTup (mCons (mVar 2) (mCons (mC (.int 0)) mNil))) mNil))) mNil)) (mCons (mC (.bl true)) mNil)))))))
/-! next_store -/
def lg_5_0 : MG := (gN 4)
def lt_5_0 : MT := (mTB (mB (eqD true) (mVar 4) (mVar 3)))
def le_5_0 : ME := (mVar 4)
def n_5 : List Str := ["rule", "frames", "held", "page", "own"]
def b_5 : MS := (mSeq (mIfS (mTB (mB (eqD false) (mVar 0) (mC (.str [115, 101, 99, 111, 110, 100]))))
 (mRet (mCall 4 (mCons (mVar 1) (mCons (mVar 2) (mCons (mVar 3) mNil)))))
 mSkip)
 (mSeq (mIfS (mTB (mB (inD false) (mVar 3) (mVar 2)))
 (mSeq (mIfS (mTB (mB (eqD false) (mVar 0) (mC (.str [102, 105, 114, 115, 116]))))
 (mRet (mTup (mCons (mVar 2) (mCons (mC (.bl false)) mNil))))
 mSkip)
 (mRet (mTup (mCons (mB addD (mBl toTupD (mCons (mLc (mSeqI (mVar 2)) lg_5_0 lt_5_0 le_5_0 [4]) mNil)) (mTup (mCons (mVar 3) mNil))) (mCons (mC (.bl false)) mNil)))))
 mSkip)
 (mSeq (mIfS (mTB (mB (eqD false) (mBl lenD (mCons (mVar 2) mNil)) (mVar 1)))
 (mRet (mTup (mCons (mB addD (mSl (mVar 2) (mPart (mC (.int 1))) mNoPart) (mTup (mCons (mVar 3) mNil))) (mCons (mC (.bl true)) mNil))))
 mSkip)
 (mRet (mTup (mCons (mB addD (mVar 2) (mTup (mCons (mVar 3) mNil))) (mCons (mC (.bl true)) mNil)))))))
/-! run_of -/
def fg_6_0 : MG := (gTp 2 (gsCons (gN 5) (gsCons (gN 6) gsNil)))
def fb_6_0 : MS := (mSeq (mAsg (mCall 5 (mCons (mVar 0) (mCons (mVar 1) (mCons (mVar 3) (mCons (mVar 6) mNil))))) (gTp 2 (gsCons (gN 3) (gsCons (gN 7) gsNil))))
 (mIfS (mTru (mVar 7))
 (mDrop (mApp (mVar 4) (mVar 5)))
 mSkip))
def n_6 : List Str := ["rule", "frames", "uses", "held", "found", "place", "page", "is_fault"]
def b_6 : MS := (mSeq (mAsg (mTup mNil) (gN 3))
 (mSeq (mAsg (mLstM mNil) (gN 4))
 (mSeq (mFor (mEnum (mCons (mVar 2) mNil)) fg_6_0 fb_6_0)
 (mRet (mTup (mCons (mVar 4) (mCons (mVar 3) mNil)))))))
/-! check_question -/
def n_7 : List Str := ["rule", "frames", "uses"]
def b_7 : MS := (mSeq (mDrop (mCall 1 (mCons (mVar 0) mNil)))
 (mSeq (mDrop (mCall 2 (mCons (mVar 1) (mCons (mC (.int 4)) mNil))))
 (mDrop (mCall 3 (mCons (mVar 2) mNil)))))
/-! faults -/
def n_8 : List Str := ["rule", "frames", "uses"]
def b_8 : MS := (mSeq (mDrop (mCall 7 (mCons (mVar 0) (mCons (mVar 1) (mCons (mVar 2) mNil)))))
 (mRet (mB ixD (mCall 6 (mCons (mVar 0) (mCons (mVar 1) (mCons (mVar 2) mNil)))) (mC (.int 0)))))
/-! choice_after -/
def lg_9_0 : MG := (gN 4)
def lt_9_0 : MT := (mTB (mB (eqD true) (mVar 4) (mVar 3)))
def le_9_0 : ME := (mVar 4)
def n_9 : List Str := ["frames", "held", "page", "choice", "own"]
def b_9 : MS := (mSeq (mIfS (mOr (mTB (mB (inD false) (mVar 2) (mVar 1))) (mTB (mB ltD (mBl lenD (mCons (mVar 1) mNil)) (mVar 0))))
 (mSeq (mIfS (mTB (mB (isD true) (mVar 3) (mC .non)))
 (mRet (mC .non))
 mSkip)
 (mSeq (mIfS (mTB (mB (inD false) (mVar 2) (mVar 1)))
 (mRet (mVar 1))
 mSkip)
 (mRet (mB addD (mVar 1) (mTup (mCons (mVar 2) mNil))))))
 mSkip)
 (mSeq (mIfS (mOr (mNot (mTru (mCall 0 (mCons (mVar 3) (mCons (mC (.int 0)) (mCons (mC (.int 4)) mNil)))))) (mTB (mB (inD true) (mVar 3) (mVar 1))))
 (mRet (mC .non))
 mSkip)
 (mRet (mB addD (mBl toTupD (mCons (mLc (mSeqI (mVar 1)) lg_9_0 lt_9_0 le_9_0 [4]) mNil)) (mTup (mCons (mVar 2) mNil))))))
/-! faults_by -/
def fg_10_0 : MG := (gTp 2 (gsCons (gN 5) (gsCons (gN 6) gsNil)))
def fb_10_0 : MS := (mSeq (mAug 4 (intD (fun _ _ => true) fun i j => .int (i + j)) (mBl toIntD (mCons (mB (inD true) (mVar 5) (mVar 3)) mNil)))
 (mSeq (mAsg (mCall 9 (mCons (mVar 0) (mCons (mVar 3) (mCons (mVar 5) (mCons (mVar 6) mNil))))) (gN 3))
 (mIfS (mTB (mB (isD false) (mVar 3) (mC .non)))
 (mRet (mC .non))
 mSkip)))
def n_10 : List Str := ["frames", "uses", "value", "held", "found", "page", "choice"]
def b_10 : MS := (mSeq (mDrop (mCall 2 (mCons (mVar 0) (mCons (mC (.int 4)) mNil))))
 (mSeq (mDrop (mCall 3 (mCons (mVar 1) mNil)))
 (mSeq (mIfS (mOr (mNot (mTru (mIsi .tuple (mVar 2)))) (mTB (mB (eqD true) (mBl lenD (mCons (mVar 2) mNil)) (mBl lenD (mCons (mVar 1) mNil)))))
 (mRet (mC .non))
 mSkip)
 (mSeq (mAsg (mTup mNil) (gN 3))
 (mSeq (mAsg (mC (.int 0)) (gN 4))
 (mSeq (mFor (mZip (mCons (mVar 1) (mCons (mVar 2) mNil))) fg_10_0 fb_10_0)
 (mRet (mVar 4))))))))
/-! next_use -/
def fg_11_0 : MG := (gTp 2 (gsCons (gN 3) (gsCons (gN 4) gsNil)))
def fb_11_0 : MS := (mIfS (mTB (mB (eqD false) (mVar 4) (mVar 2)))
 (mRet (mVar 3))
 mSkip)
def n_11 : List Str := ["uses", "place", "page", "far", "other"]
def b_11 : MS := (mSeq (mFor (mEnum (mCons (mSl (mVar 0) (mPart (mB addD (mVar 1) (mC (.int 1)))) mNoPart) mNil)) fg_11_0 fb_11_0)
 (mRet (mBl lenD (mCons (mVar 0) mNil))))
/-! choices_of -/
def lg_12_0 : MG := (gN 7)
def lt_12_0 : MT := mYes
def le_12_0 : ME := (mTup (mCons (mCall 11 (mCons (mVar 1) (mCons (mVar 4) (mCons (mVar 7) mNil)))) (mCons (mVar 7) mNil)))
def fg_12_1 : MG := (gTp 2 (gsCons (gN 4) (gsCons (gN 5) gsNil)))
def fb_12_1 : MS := (mSeq (mAsg (mC .non) (gN 6))
 (mSeq (mIfS (mAnd (mTB (mB (inD true) (mVar 5) (mVar 2))) (mTB (mB (eqD false) (mBl lenD (mCons (mVar 2) mNil)) (mVar 0))))
 (mAsg (mB ixD (mBl maxLD (mCons (mLc (mSeqI (mVar 2)) lg_12_0 lt_12_0 le_12_0 [7]) mNil)) (mC (.int 1))) (gN 6))
 mSkip)
 (mSeq (mDrop (mApp (mVar 3) (mVar 6)))
 (mAsg (mCall 9 (mCons (mVar 0) (mCons (mVar 2) (mCons (mVar 5) (mCons (mVar 6) mNil))))) (gN 2)))))
def n_12 : List Str := ["frames", "uses", "held", "found", "place", "page", "choice", "own"]
def b_12 : MS := (mSeq (mAsg (mTup mNil) (gN 2))
 (mSeq (mAsg (mLstM mNil) (gN 3))
 (mSeq (mFor (mEnum (mCons (mVar 1) mNil)) fg_12_1 fb_12_1)
 (mRet (mBl toTupD (mCons (mVar 3) mNil))))))
/-! best_choices -/
def n_13 : List Str := ["frames", "uses"]
def b_13 : MS := (mSeq (mDrop (mCall 2 (mCons (mVar 0) (mCons (mC (.int 4)) mNil))))
 (mSeq (mDrop (mCall 3 (mCons (mVar 1) mNil)))
 (mRet (mCall 12 (mCons (mVar 0) (mCons (mVar 1) mNil))))))
/-! fewest_faults -/
def n_14 : List Str := ["frames", "uses"]
def b_14 : MS := (mSeq (mDrop (mCall 2 (mCons (mVar 0) (mCons (mC (.int 4)) mNil))))
 (mSeq (mDrop (mCall 3 (mCons (mVar 1) mNil)))
 (mRet (mCall 10 (mCons (mVar 0) (mCons (mVar 1) (mCons (mCall 12 (mCons (mVar 0) (mCons (mVar 1) mNil))) mNil)))))))
/-! _law_mix -/
def fg_15_0 : MG := (gN 3)
def fb_15_0 : MS := (mAsg (mB modD (mBl toIntD (mCons (mB addD (mB addD (mB mulT (mVar 2) (mC (.int 48271))) (mB modD (mBl toIntD (mCons (mVar 3) mNil)) (mC (.int 2147483629)))) (mC (.int 1))) mNil)) (mC (.int 2147483647))) (gN 2))
def n_15 : List Str := ["_law_script", "_law_seed", "_law_state", "_law_cell"]
def b_15 : MS := (mSeq (mAsg (mVar 1) (gN 2))
 (mSeq (mFor (mSeqI (mVar 0)) fg_15_0 fb_15_0)
 (mRet (mLstM (mCons (mVar 2) (mCons (mBl (toLstD true) (mCons (mVar 0) mNil)) (mCons (mC (.int 0)) mNil)))))))
/-! _law_next -/
def n_16 : List Str := ["_law_h", "_law_bound", "_law_cell", "_law_cells"]
def b_16 : MS := (mSeq (mAsg (mB ixD (mB addD (mB ixD (mVar 0) (mC (.int 1))) (mLst (mCons (mC (.int 0)) mNil))) (mB modD (mBl toIntD (mCons (mB ixD (mVar 0) (mC (.int 2))) mNil)) (mBl maxLD (mCons (mC (.int 1)) (mCons (mBl lenD (mCons (mB ixD (mVar 0) (mC (.int 1))) mNil)) mNil))))) (gN 2))
 (mSeq (mIfS (mTB (mB geD (mVar 2) (mB powD (mC (.int 10)) (mC (.int 18)))))
 (mSeq (mAsg (mB ixD (mVar 0) (mC (.int 1))) (gN 3))
 (mSeq (mAsg (mB fdivD (mVar 2) (mVar 1)) (gSb (mVar 3) (mB modD (mBl toIntD (mCons (mB ixD (mVar 0) (mC (.int 2))) mNil)) (mBl lenD (mCons (mVar 3) mNil)))))
 (mRet (mB modD (mBl toIntD (mCons (mVar 2) mNil)) (mVar 1)))))
 mSkip)
 (mSeq (mAsg (mB modD (mBl toIntD (mCons (mB addD (mB addD (mB mulT (mB ixD (mVar 0) (mC (.int 0))) (mC (.int 48271))) (mB mulT (mVar 2) (mC (.int 69621)))) (mC (.int 11))) mNil)) (mC (.int 2147483647))) (gSb (mVar 0) (mC (.int 0))))
 (mSeq (mAsg (mB addD (mB ixD (mVar 0) (mC (.int 2))) (mC (.int 1))) (gSb (mVar 0) (mC (.int 2))))
 (mRet (mB modD (mBl toIntD (mCons (mB fdivD (mB ixD (mVar 0) (mC (.int 0))) (mC (.int 7))) mNil)) (mVar 1)))))))
/-! _law_uses -/
def fg_17_0 : MG := (gN 4)
def fb_17_0 : MS := (mSeq (mAsg (mCall 16 (mCons (mVar 0) (mCons (mVar 1) mNil))) (gN 5))
 (mSeq (mIfS (mAnd (mTB (mB (eqD true) (mVar 3) (mLst mNil))) (mTB (mB (eqD false) (mCall 16 (mCons (mVar 0) (mCons (mC (.int 3)) mNil))) (mC (.int 0)))))
 (mAsg (mB ixD (mVar 3) (mCall 16 (mCons (mVar 0) (mCons (mBl lenD (mCons (mVar 3) mNil)) mNil)))) (gN 5))
 mSkip)
 (mDrop (mApp (mVar 3) (mVar 5)))))
def n_17 : List Str := ["_law_h", "_law_many", "_law_most", "_law_row", "_law_k", "_law_page"]
def b_17 : MS := (mSeq (mAsg (mLstM mNil) (gN 3))
 (mSeq (mFor (mRng1 (mCons (mCall 16 (mCons (mVar 0) (mCons (mB addD (mVar 2) (mC (.int 1))) mNil))) mNil)) fg_17_0 fb_17_0)
 (mRet (mBl toTupD (mCons (mVar 3) mNil)))))
/-! _law_least -/
def lg_21_0 : MG := (gN 10)
def lt_21_0 : MT := (mTB (mB (eqD true) (mVar 10) (mVar 9)))
def le_21_0 : ME := (mVar 10)
def lg_21_1 : MG := (gN 9)
def lt_21_1 : MT := mYes
def le_21_1 : ME := (mBl toTupD (mCons (mBl srtD (mCons (mB addD (mLc (mSeqI (mVar 5)) lg_21_0 lt_21_0 le_21_0 [10]) (mLst (mCons (mVar 3) mNil))) mNil)) mNil))
def fg_21_2 : MG := (gN 7)
def fb_21_2 : MS := (mSeq (mAsg (mB addD (mB ixD (mVar 2) (mVar 5)) (mBl toIntD (mCons (mB (inD true) (mVar 3) (mVar 5)) mNil))) (gN 8))
 (mAsg (mBl minLD (mCons (mVar 8) (mCons (mGet2 (mVar 4) (mVar 7) (mVar 8)) mNil))) (gSb (mVar 4) (mVar 7))))
def fg_21_3 : MG := (gN 5)
def fb_21_3 : MS := (mSeq (mAsg (mLst (mCons (mVar 5) mNil)) (gN 6))
 (mSeq (mIfS (mTB (mB (inD true) (mVar 3) (mVar 5)))
 (mSeq (mAsg (mLst (mCons (mBl toTupD (mCons (mBl srtD (mCons (mB addD (mVar 5) (mTup (mCons (mVar 3) mNil))) mNil)) mNil)) mNil)) (gN 6))
 (mIfS (mTB (mB (eqD false) (mBl lenD (mCons (mVar 5) mNil)) (mVar 0)))
 (mAsg (mLc (mSeqI (mVar 5)) lg_21_1 lt_21_1 le_21_1 [9]) (gN 6))
 mSkip))
 mSkip)
 (mFor (mSeqI (mVar 6)) fg_21_2 fb_21_2)))
def fg_21_4 : MG := (gN 3)
def fb_21_4 : MS := (mSeq (mAsg mDct0 (gN 4))
 (mSeq (mFor (mSeqK (mVar 2)) fg_21_3 fb_21_3)
 (mAsg (mVar 4) (gN 2))))
def lg_21_5 : MG := (gN 5)
def lt_21_5 : MT := mYes
def le_21_5 : ME := (mB ixD (mVar 2) (mVar 5))
def n_21 : List Str := ["_law_frames", "_law_uses_here", "_law_known", "_law_page", "_law_later", "_law_row", "_law_ways", "_law_way", "_law_cost", "_law_out", "_law_one"]
def b_21 : MS := (mSeq (mAsg (mDct1 (mTup mNil) (mC (.int 0))) (gN 2))
 (mSeq (mFor (mSeqI (mVar 1)) fg_21_4 fb_21_4)
 (mRet (mBl minLD (mCons (mLc (mSeqK (mVar 2)) lg_21_5 lt_21_5 le_21_5 [5]) mNil)))))
/-! _law_count -/
def lg_22_0 : MG := (gN 7)
def lt_22_0 : MT := (mTB (mB (eqD true) (mVar 7) (mVar 6)))
def le_22_0 : ME := (mVar 7)
def fg_22_1 : MG := (gN 3)
def fb_22_1 : MS := (mSeq (mAsg (mB ixD (mVar 2) (mVar 3)) (gN 6))
 (mSeq (mIfS (mOr (mTB (mB (inD false) (mB ixD (mVar 1) (mVar 3)) (mVar 4))) (mTB (mB ltD (mBl lenD (mCons (mVar 4) mNil)) (mVar 0))))
 (mIfS (mTB (mB (isD true) (mVar 6) (mC .non)))
 (mRet (mC .non))
 mSkip)
 (mIfS (mOr (mTru (mIsi .bool (mVar 6))) (mOr (mNot (mTru (mIsi .int (mVar 6)))) (mTB (mB (inD true) (mVar 6) (mVar 4)))))
 (mRet (mC .non))
 mSkip))
 (mIfS (mTB (mB (inD true) (mB ixD (mVar 1) (mVar 3)) (mVar 4)))
 (mPar 4 5 (mCons (mB addD (mLc (mSeqI (mVar 4)) lg_22_0 lt_22_0 le_22_0 [7]) (mLst (mCons (mB ixD (mVar 1) (mVar 3)) mNil))) (mCons (mB addD (mVar 5) (mC (.int 1))) mNil)))
 mSkip)))
def n_22 : List Str := ["_law_frames", "_law_uses_here", "_law_value", "_law_k", "_law_row", "_law_found", "_law_out", "_law_one"]
def b_22 : MS := (mSeq (mIfS (mOr (mNot (mTru (mIsi .tuple (mVar 2)))) (mTB (mB (eqD true) (mBl lenD (mCons (mVar 2) mNil)) (mBl lenD (mCons (mVar 1) mNil)))))
 (mRet (mC .non))
 mSkip)
 (mSeq (mPar 4 5 (mCons (mLst mNil) (mCons (mC (.int 0)) mNil)))
 (mSeq (mFor (mRng1 (mCons (mBl lenD (mCons (mVar 1) mNil)) mNil)) fg_22_1 fb_22_1)
 (mRet (mVar 5)))))
/-! _law_spoilt -/
def lg_23_0 : MG := (gN 5)
def lt_23_0 : MT := (mTB (mB (isD true) (mB ixD (mVar 1) (mVar 5)) (mC .non)))
def le_23_0 : ME := (mVar 5)
def n_23 : List Str := ["_law_h", "_law_value", "_law_kind", "_law_spots", "_law_spot", "_law_k"]
def b_23 : MS := (mSeq (mAsg (mCall 16 (mCons (mVar 0) (mCons (mC (.int 4)) mNil))) (gN 2))
 (mSeq (mIfS (mOr (mTB (mB (eqD false) (mVar 1) (mTup mNil))) (mTB (mB (eqD false) (mVar 2) (mC (.int 0)))))
 (mRet (mB ixD (mLst (mCons (mC .non) (mCons (mTup mNil) (mCons (mBl (toLstD false) (mCons (mVar 1) mNil)) (mCons (mB addD (mVar 1) (mTup (mCons (mC .non) mNil))) (mCons (mC (.int 3)) mNil)))))) (mCall 16 (mCons (mVar 0) (mCons (mC (.int 5)) mNil)))))
 mSkip)
 (mSeq (mAsg (mLc (mRng1 (mCons (mBl lenD (mCons (mVar 1) mNil)) mNil)) lg_23_0 lt_23_0 le_23_0 [5]) (gN 3))
 (mSeq (mAsg (mIf (mOr (mTB (mB (eqD false) (mVar 3) (mLst mNil))) (mTB (mB (eqD false) (mVar 2) (mC (.int 1))))) (mCall 16 (mCons (mVar 0) (mCons (mBl lenD (mCons (mVar 1) mNil)) mNil))) (mB ixD (mVar 3) (mCall 16 (mCons (mVar 0) (mCons (mBl lenD (mCons (mVar 3) mNil)) mNil))))) (gN 4))
 (mRet (mB addD (mB addD (mSl (mVar 1) mNoPart (mPart (mVar 4))) (mTup (mCons (mB ixD (mLst (mCons (mC .non) (mCons (mC (.bl true)) (mCons (mC (.int 0)) (mCons (mC (.int 1)) (mCons (mC (.int 2)) (mCons (mC (.int 3)) (mCons (mC (.int 4)) (mCons (mC (.str [48])) mNil))))))))) (mCall 16 (mCons (mVar 0) (mCons (mC (.int 8)) mNil)))) mNil))) (mSl (mVar 1) (mPart (mB addD (mVar 4) (mC (.int 1)))) mNoPart)))))))
/-! law -/
def lg_24_0 : MG := (gN 7)
def lt_24_0 : MT := (mTB (mB ltD (mBl lenD (mCons (mCall 8 (mCons (mVar 7) (mCons (mVar 5) (mCons (mVar 2) mNil)))) mNil)) (mVar 4)))
def le_24_0 : ME := (mVar 7)
def n_24 : List Str := ["_law_script", "_law_h", "_law_uses_here", "_law_value", "_law_least_here", "_law_frames", "_law_large", "_law_rule"]
def b_24 : MS := (mSeq (mAsg (mCall 15 (mCons (mVar 0) (mCons (mC (.int 49)) mNil))) (gN 1))
 (mSeq (mAsg (mTup (mCons (mB addD (mC (.int 1)) (mCall 16 (mCons (mVar 1) (mCons (mC (.int 4)) mNil)))) (mCons (mB (eqD false) (mCall 16 (mCons (mVar 1) (mCons (mC (.int 3)) mNil))) (mC (.int 0))) mNil))) (gTp 2 (gsCons (gN 5) (gsCons (gN 6) gsNil))))
 (mSeq (mAsg (mCall 17 (mCons (mVar 1) (mCons (mB addD (mC (.int 1)) (mCall 16 (mCons (mVar 1) (mCons (mC (.int 5)) mNil)))) (mCons (mIf (mTru (mVar 6)) (mC (.int 200)) (mC (.int 14))) mNil)))) (gN 2))
 (mSeq (mAsg (mCall 13 (mCons (mVar 5) (mCons (mVar 2) mNil))) (gN 3))
 (mSeq (mAsg (mCall 14 (mCons (mVar 5) (mCons (mVar 2) mNil))) (gN 4))
 (mSeq (mIfS (mAnd (mNot (mTru (mVar 6))) (mTB (mB (eqD true) (mVar 4) (mCall 21 (mCons (mVar 5) (mCons (mVar 2) mNil))))))
 (mRet (mC (.bl false)))
 mSkip)
 (mSeq (mIfS (mOr (mTB (mB (eqD true) (mCall 22 (mCons (mVar 5) (mCons (mVar 2) (mCons (mVar 3) mNil)))) (mVar 4))) (mTB (mB (eqD true) (mCall 10 (mCons (mVar 5) (mCons (mVar 2) (mCons (mVar 3) mNil)))) (mVar 4))))
 (mRet (mC (.bl false)))
 mSkip)
 (mSeq (mIfS (mTB (mB (eqD true) (mLc (mSeqI (mLst (mCons (mC (.str [102, 105, 114, 115, 116])) (mCons (mC (.str [108, 97, 116, 101, 108, 121])) (mCons (mC (.str [115, 101, 99, 111, 110, 100])) mNil))))) lg_24_0 lt_24_0 le_24_0 [7]) (mLst mNil)))
 (mRet (mC (.bl false)))
 mSkip)
 (mSeq (mAsg (mCall 23 (mCons (mVar 1) (mCons (mVar 3) mNil))) (gN 3))
 (mRet (mB (eqD false) (mCall 10 (mCons (mVar 5) (mCons (mVar 2) (mCons (mVar 3) mNil)))) (mCall 22 (mCons (mVar 5) (mCons (mVar 2) (mCons (mVar 3) mNil)))))))))))))))
def tFns : List Fn := [⟨"is_from", ["value", "low", "high"], n_0, b_0, false⟩,
  ⟨"check_page_rule", ["value"], n_1, b_1, false⟩,
  ⟨"check_frames", ["value", "most"], n_2, b_2, false⟩,
  ⟨"check_uses", ["value"], n_3, b_3, false⟩,
  ⟨"next_marked", ["frames", "held", "page"], n_4, b_4, false⟩,
  ⟨"next_store", ["rule", "frames", "held", "page"], n_5, b_5, false⟩,
  ⟨"run_of", ["rule", "frames", "uses"], n_6, b_6, false⟩,
  ⟨"check_question", ["rule", "frames", "uses"], n_7, b_7, false⟩,
  ⟨"faults", ["rule", "frames", "uses"], n_8, b_8, false⟩,
  ⟨"choice_after", ["frames", "held", "page", "choice"], n_9, b_9, false⟩,
  ⟨"faults_by", ["frames", "uses", "value"], n_10, b_10, false⟩,
  ⟨"next_use", ["uses", "place", "page"], n_11, b_11, false⟩,
  ⟨"choices_of", ["frames", "uses"], n_12, b_12, false⟩,
  ⟨"best_choices", ["frames", "uses"], n_13, b_13, false⟩,
  ⟨"fewest_faults", ["frames", "uses"], n_14, b_14, false⟩,
  ⟨"_law_mix", ["_law_script", "_law_seed"], n_15, b_15, true⟩,
  ⟨"_law_next", ["_law_h", "_law_bound"], n_16, b_16, false⟩,
  ⟨"_law_uses", ["_law_h", "_law_many", "_law_most"], n_17, b_17, false⟩,
  ⟨"is_from", ["value", "low", "high"], n_0, b_0, false⟩,
  ⟨"is_from", ["value", "low", "high"], n_0, b_0, false⟩,
  ⟨"is_from", ["value", "low", "high"], n_0, b_0, false⟩,
  ⟨"_law_least", ["_law_frames", "_law_uses_here"], n_21, b_21, false⟩,
  ⟨"_law_count", ["_law_frames", "_law_uses_here", "_law_value"], n_22, b_22, false⟩,
  ⟨"_law_spoilt", ["_law_h", "_law_value"], n_23, b_23, false⟩,
  ⟨"law", ["_law_script"], n_24, b_24, false⟩]
def tCon : List (Str × D) := [("FIRST", (.str [102, 105, 114, 115, 116])), ("SECOND", (.str [115, 101, 99, 111, 110, 100])), ("RULES", (.tup [(.str [102, 105, 114, 115, 116]), (.str [108, 97, 116, 101, 108, 121]), (.str [115, 101, 99, 111, 110, 100])])), ("MOST_PAGE", (.int 4)), ("MOST_FRAMES", (.int 4)), ("MOST_USES", (.int 200))]
def tBlt : List Str := ["len", "int", "tuple", "list", "max", "min", "isinstance", "bool", "str", "dict", "range", "enumerate", "zip", "sorted", "all", "any", "sum"]
def tb : Tb := ⟨tFns, tCon, tBlt, tExs, tExm⟩
theorem u_0 (n : Nat) (x0 x1 x2 : D) (M : Mem) : callF tb (n + 1) 0 [x0, x1, x2] M = retOf false M.length (b_0 (callF tb n) [some x0, some x1, some x2] M) := rfl
theorem u_1 (n : Nat) (x0 : D) (M : Mem) : callF tb (n + 1) 1 [x0] M = retOf false M.length (b_1 (callF tb n) [some x0] M) := rfl
theorem u_2 (n : Nat) (x0 x1 : D) (M : Mem) : callF tb (n + 1) 2 [x0, x1] M = retOf false M.length (b_2 (callF tb n) [some x0, some x1] M) := rfl
theorem u_3 (n : Nat) (x0 : D) (M : Mem) : callF tb (n + 1) 3 [x0] M = retOf false M.length (b_3 (callF tb n) [some x0, none, none] M) := rfl
theorem u_4 (n : Nat) (x0 x1 x2 : D) (M : Mem) : callF tb (n + 1) 4 [x0, x1, x2] M = retOf false M.length (b_4 (callF tb n) [some x0, some x1, some x2, none, none, none] M) := rfl
theorem u_5 (n : Nat) (x0 x1 x2 x3 : D) (M : Mem) : callF tb (n + 1) 5 [x0, x1, x2, x3] M = retOf false M.length (b_5 (callF tb n) [some x0, some x1, some x2, some x3, none] M) := rfl
theorem u_6 (n : Nat) (x0 x1 x2 : D) (M : Mem) : callF tb (n + 1) 6 [x0, x1, x2] M = retOf false M.length (b_6 (callF tb n) [some x0, some x1, some x2, none, none, none, none, none] M) := rfl
theorem u_7 (n : Nat) (x0 x1 x2 : D) (M : Mem) : callF tb (n + 1) 7 [x0, x1, x2] M = retOf false M.length (b_7 (callF tb n) [some x0, some x1, some x2] M) := rfl
theorem u_8 (n : Nat) (x0 x1 x2 : D) (M : Mem) : callF tb (n + 1) 8 [x0, x1, x2] M = retOf false M.length (b_8 (callF tb n) [some x0, some x1, some x2] M) := rfl
theorem u_9 (n : Nat) (x0 x1 x2 x3 : D) (M : Mem) : callF tb (n + 1) 9 [x0, x1, x2, x3] M = retOf false M.length (b_9 (callF tb n) [some x0, some x1, some x2, some x3, none] M) := rfl
theorem u_10 (n : Nat) (x0 x1 x2 : D) (M : Mem) : callF tb (n + 1) 10 [x0, x1, x2] M = retOf false M.length (b_10 (callF tb n) [some x0, some x1, some x2, none, none, none, none] M) := rfl
theorem u_11 (n : Nat) (x0 x1 x2 : D) (M : Mem) : callF tb (n + 1) 11 [x0, x1, x2] M = retOf false M.length (b_11 (callF tb n) [some x0, some x1, some x2, none, none] M) := rfl
theorem u_12 (n : Nat) (x0 x1 : D) (M : Mem) : callF tb (n + 1) 12 [x0, x1] M = retOf false M.length (b_12 (callF tb n) [some x0, some x1, none, none, none, none, none, none] M) := rfl
theorem u_13 (n : Nat) (x0 x1 : D) (M : Mem) : callF tb (n + 1) 13 [x0, x1] M = retOf false M.length (b_13 (callF tb n) [some x0, some x1] M) := rfl
theorem u_14 (n : Nat) (x0 x1 : D) (M : Mem) : callF tb (n + 1) 14 [x0, x1] M = retOf false M.length (b_14 (callF tb n) [some x0, some x1] M) := rfl
theorem u_15 (n : Nat) (x0 x1 : D) (M : Mem) : callF tb (n + 1) 15 [x0, x1] M = retOf true M.length (b_15 (callF tb n) [some x0, some x1, none, none] M) := rfl
theorem u_16 (n : Nat) (x0 x1 : D) (M : Mem) : callF tb (n + 1) 16 [x0, x1] M = retOf false M.length (b_16 (callF tb n) [some x0, some x1, none, none] M) := rfl
theorem u_17 (n : Nat) (x0 x1 x2 : D) (M : Mem) : callF tb (n + 1) 17 [x0, x1, x2] M = retOf false M.length (b_17 (callF tb n) [some x0, some x1, some x2, none, none, none] M) := rfl
theorem u_21 (n : Nat) (x0 x1 : D) (M : Mem) : callF tb (n + 1) 21 [x0, x1] M = retOf false M.length (b_21 (callF tb n) [some x0, some x1, none, none, none, none, none, none, none, none, none] M) := rfl
theorem u_22 (n : Nat) (x0 x1 x2 : D) (M : Mem) : callF tb (n + 1) 22 [x0, x1, x2] M = retOf false M.length (b_22 (callF tb n) [some x0, some x1, some x2, none, none, none, none, none] M) := rfl
theorem u_23 (n : Nat) (x0 x1 : D) (M : Mem) : callF tb (n + 1) 23 [x0, x1] M = retOf false M.length (b_23 (callF tb n) [some x0, some x1, none, none, none, none] M) := rfl
theorem u_24 (n : Nat) (x0 : D) (M : Mem) : callF tb (n + 1) 24 [x0] M = retOf false M.length (b_24 (callF tb n) [some x0, none, none, none, none, none, none, none] M) := rfl
def mt_0 : List (Nat × Nat) := []
theorem c_0 : OkSs tb ⟨defScope (topS 13), n_0, fun _ => true, mt_0, true, true⟩ (defBody (topS 13)) b_0 := cSs_ok tb (n := 60) (by kernel_rfl)
theorem sc_0 : FnScope n_0 ["value", "low", "high"] (defScope (topS 13)) := ⟨rfl, rfl, rfl, by decide +kernel, rfl, by decide +kernel, by decide +kernel⟩
def mt_1 : List (Nat × Nat) := []
theorem c_1 : OkSs tb ⟨defScope (topS 14), n_1, fun _ => true, mt_1, true, true⟩ (defBody (topS 14)) b_1 := cSs_ok tb (n := 60) (by kernel_rfl)
theorem sc_1 : FnScope n_1 ["value"] (defScope (topS 14)) := ⟨rfl, rfl, rfl, by decide +kernel, rfl, by decide +kernel, by decide +kernel⟩
def mt_2 : List (Nat × Nat) := []
theorem c_2 : OkSs tb ⟨defScope (topS 15), n_2, fun _ => true, mt_2, true, true⟩ (defBody (topS 15)) b_2 := cSs_ok tb (n := 60) (by kernel_rfl)
theorem sc_2 : FnScope n_2 ["value", "most"] (defScope (topS 15)) := ⟨rfl, rfl, rfl, by decide +kernel, rfl, by decide +kernel, by decide +kernel⟩
def mt_3 : List (Nat × Nat) := []
theorem c_3 : OkSs tb ⟨defScope (topS 16), n_3, fun _ => true, mt_3, true, true⟩ (defBody (topS 16)) b_3 := cSs_ok tb (n := 60) (by kernel_rfl)
theorem sc_3 : FnScope n_3 ["value"] (defScope (topS 16)) := ⟨rfl, rfl, rfl, by decide +kernel, rfl, by decide +kernel, by decide +kernel⟩
def mt_4 : List (Nat × Nat) := [(35, 10)]
theorem c_4 : OkSs tb ⟨defScope (topS 17), n_4, fun _ => true, mt_4, true, true⟩ (defBody (topS 17)) b_4 := cSs_ok tb (n := 60) (by kernel_rfl)
theorem sc_4 : FnScope n_4 ["frames", "held", "page"] (defScope (topS 17)) := ⟨rfl, rfl, rfl, by decide +kernel, rfl, by decide +kernel, by decide +kernel⟩
def mt_5 : List (Nat × Nat) := []
theorem c_5 : OkSs tb ⟨defScope (topS 18), n_5, fun _ => true, mt_5, true, true⟩ (defBody (topS 18)) b_5 := cSs_ok tb (n := 60) (by kernel_rfl)
theorem sc_5 : FnScope n_5 ["rule", "frames", "held", "page"] (defScope (topS 18)) := ⟨rfl, rfl, rfl, by decide +kernel, rfl, by decide +kernel, by decide +kernel⟩
def mt_6 : List (Nat × Nat) := [(57, 12)]
theorem c_6 : OkSs tb ⟨defScope (topS 19), n_6, fun _ => true, mt_6, true, true⟩ (defBody (topS 19)) b_6 := cSs_ok tb (n := 60) (by kernel_rfl)
theorem sc_6 : FnScope n_6 ["rule", "frames", "uses"] (defScope (topS 19)) := ⟨rfl, rfl, rfl, by decide +kernel, rfl, by decide +kernel, by decide +kernel⟩
def mt_7 : List (Nat × Nat) := []
theorem c_7 : OkSs tb ⟨defScope (topS 20), n_7, fun _ => true, mt_7, true, true⟩ (defBody (topS 20)) b_7 := cSs_ok tb (n := 60) (by kernel_rfl)
theorem sc_7 : FnScope n_7 ["rule", "frames", "uses"] (defScope (topS 20)) := ⟨rfl, rfl, rfl, by decide +kernel, rfl, by decide +kernel, by decide +kernel⟩
def mt_8 : List (Nat × Nat) := []
theorem c_8 : OkSs tb ⟨defScope (topS 21), n_8, fun _ => true, mt_8, true, true⟩ (defBody (topS 21)) b_8 := cSs_ok tb (n := 60) (by kernel_rfl)
theorem sc_8 : FnScope n_8 ["rule", "frames", "uses"] (defScope (topS 21)) := ⟨rfl, rfl, rfl, by decide +kernel, rfl, by decide +kernel, by decide +kernel⟩
def mt_9 : List (Nat × Nat) := []
theorem c_9 : OkSs tb ⟨defScope (topS 22), n_9, fun _ => true, mt_9, true, true⟩ (defBody (topS 22)) b_9 := cSs_ok tb (n := 60) (by kernel_rfl)
theorem sc_9 : FnScope n_9 ["frames", "held", "page", "choice"] (defScope (topS 22)) := ⟨rfl, rfl, rfl, by decide +kernel, rfl, by decide +kernel, by decide +kernel⟩
def mt_10 : List (Nat × Nat) := []
theorem c_10 : OkSs tb ⟨defScope (topS 23), n_10, fun _ => true, mt_10, true, true⟩ (defBody (topS 23)) b_10 := cSs_ok tb (n := 60) (by kernel_rfl)
theorem sc_10 : FnScope n_10 ["frames", "uses", "value"] (defScope (topS 23)) := ⟨rfl, rfl, rfl, by decide +kernel, rfl, by decide +kernel, by decide +kernel⟩
def mt_11 : List (Nat × Nat) := []
theorem c_11 : OkSs tb ⟨defScope (topS 24), n_11, fun _ => true, mt_11, true, true⟩ (defBody (topS 24)) b_11 := cSs_ok tb (n := 60) (by kernel_rfl)
theorem sc_11 : FnScope n_11 ["uses", "place", "page"] (defScope (topS 24)) := ⟨rfl, rfl, rfl, by decide +kernel, rfl, by decide +kernel, by decide +kernel⟩
def mt_12 : List (Nat × Nat) := [(100, 12)]
theorem c_12 : OkSs tb ⟨defScope (topS 25), n_12, fun _ => true, mt_12, true, true⟩ (defBody (topS 25)) b_12 := cSs_ok tb (n := 60) (by kernel_rfl)
theorem sc_12 : FnScope n_12 ["frames", "uses"] (defScope (topS 25)) := ⟨rfl, rfl, rfl, by decide +kernel, rfl, by decide +kernel, by decide +kernel⟩
def mt_13 : List (Nat × Nat) := []
theorem c_13 : OkSs tb ⟨defScope (topS 26), n_13, fun _ => true, mt_13, true, true⟩ (defBody (topS 26)) b_13 := cSs_ok tb (n := 60) (by kernel_rfl)
theorem sc_13 : FnScope n_13 ["frames", "uses"] (defScope (topS 26)) := ⟨rfl, rfl, rfl, by decide +kernel, rfl, by decide +kernel, by decide +kernel⟩
def mt_14 : List (Nat × Nat) := []
theorem c_14 : OkSs tb ⟨defScope (topS 27), n_14, fun _ => true, mt_14, true, true⟩ (defBody (topS 27)) b_14 := cSs_ok tb (n := 60) (by kernel_rfl)
theorem sc_14 : FnScope n_14 ["frames", "uses"] (defScope (topS 27)) := ⟨rfl, rfl, rfl, by decide +kernel, rfl, by decide +kernel, by decide +kernel⟩
def mt_15 : List (Nat × Nat) := [(121, 11), (121, 24)]
theorem c_15 : OkSs tb ⟨defScope (topS 29), n_15, fun _ => true, mt_15, true, true⟩ (defBody (topS 29)) b_15 := cSs_ok tb (n := 60) (by kernel_rfl)
theorem sc_15 : FnScope n_15 ["_law_script", "_law_seed"] (defScope (topS 29)) := ⟨rfl, rfl, rfl, by decide +kernel, rfl, by decide +kernel, by decide +kernel⟩
def mt_16 : List (Nat × Nat) := []
theorem c_16 : OkSs tb ⟨defScope (topS 30), n_16, fun _ => true, mt_16, true, true⟩ (defBody (topS 30)) b_16 := cSs_ok tb (n := 60) (by kernel_rfl)
theorem sc_16 : FnScope n_16 ["_law_h", "_law_bound"] (defScope (topS 30)) := ⟨rfl, rfl, rfl, by decide +kernel, rfl, by decide +kernel, by decide +kernel⟩
def mt_17 : List (Nat × Nat) := [(132, 15)]
theorem c_17 : OkSs tb ⟨defScope (topS 31), n_17, fun _ => true, mt_17, true, true⟩ (defBody (topS 31)) b_17 := cSs_ok tb (n := 60) (by kernel_rfl)
theorem sc_17 : FnScope n_17 ["_law_h", "_law_many", "_law_most"] (defScope (topS 31)) := ⟨rfl, rfl, rfl, by decide +kernel, rfl, by decide +kernel, by decide +kernel⟩
def mt_21 : List (Nat × Nat) := [(166, 24), (176, 53)]
theorem c_21 : OkSs tb ⟨defScope (topS 35), n_21, fun _ => true, mt_21, true, true⟩ (defBody (topS 35)) b_21 := cSs_ok tb (n := 60) (by kernel_rfl)
theorem sc_21 : FnScope n_21 ["_law_frames", "_law_uses_here"] (defScope (topS 35)) := ⟨rfl, rfl, rfl, by decide +kernel, rfl, by decide +kernel, by decide +kernel⟩
def mt_22 : List (Nat × Nat) := []
theorem c_22 : OkSs tb ⟨defScope (topS 36), n_22, fun _ => true, mt_22, true, true⟩ (defBody (topS 36)) b_22 := cSs_ok tb (n := 60) (by kernel_rfl)
theorem sc_22 : FnScope n_22 ["_law_frames", "_law_uses_here", "_law_value"] (defScope (topS 36)) := ⟨rfl, rfl, rfl, by decide +kernel, rfl, by decide +kernel, by decide +kernel⟩
def mt_23 : List (Nat × Nat) := []
theorem c_23 : OkSs tb ⟨defScope (topS 37), n_23, fun _ => true, mt_23, true, true⟩ (defBody (topS 37)) b_23 := cSs_ok tb (n := 60) (by kernel_rfl)
theorem sc_23 : FnScope n_23 ["_law_h", "_law_value"] (defScope (topS 37)) := ⟨rfl, rfl, rfl, by decide +kernel, rfl, by decide +kernel, by decide +kernel⟩
def mt_24 : List (Nat × Nat) := []
theorem c_24 : OkSs tb ⟨defScope (topS 38), n_24, fun _ => true, mt_24, true, true⟩ (defBody (topS 38)) b_24 := cSs_ok tb (n := 60) (by kernel_rfl)
theorem sc_24 : FnScope n_24 ["_law_script"] (defScope (topS 38)) := ⟨rfl, rfl, rfl, by decide +kernel, rfl, by decide +kernel, by decide +kernel⟩
theorem all_mk {l : PySem.W.OpenLaw} {w : World} {K : PySem.W.Frag} {h : Heap} {mg : Str → Option Value} {fa : Addr} (X : K.In h) (G : h.Ns mainGlobals mg) (hfa : mg "law" = some (.ref fa))
    {f0 : Addr} {oc0 : Value} {od0 an0 : Option Addr} {sl0 : Array (Option Value)} {kV0 dc0 pm0 cd0 ct0 : Value}
    (a0 : PySem.W.nsIn K mainGlobals "is_from" = some (some (.ref f0))) (l0 : K.lookup f0 = some ⟨oc0, od0, .func (PySem.W.fnOf "is_from" "is_from" (defArgs (topS 13)) (defBody (topS 13)) (defScope (topS 13)) .none kV0 dc0 pm0 an0 cd0 ct0), sl0⟩) (c0 : PySem.W.codeIn K cd0 "is_from" = true) (k0 : PySem.W.keepIn K (.ref f0) = true)
    {f1 : Addr} {oc1 : Value} {od1 an1 : Option Addr} {sl1 : Array (Option Value)} {kV1 dc1 pm1 cd1 ct1 : Value}
    (a1 : PySem.W.nsIn K mainGlobals "check_page_rule" = some (some (.ref f1))) (l1 : K.lookup f1 = some ⟨oc1, od1, .func (PySem.W.fnOf "check_page_rule" "check_page_rule" (defArgs (topS 14)) (defBody (topS 14)) (defScope (topS 14)) .none kV1 dc1 pm1 an1 cd1 ct1), sl1⟩) (c1 : PySem.W.codeIn K cd1 "check_page_rule" = true) (k1 : PySem.W.keepIn K (.ref f1) = true)
    {f2 : Addr} {oc2 : Value} {od2 an2 : Option Addr} {sl2 : Array (Option Value)} {kV2 dc2 pm2 cd2 ct2 : Value}
    (a2 : PySem.W.nsIn K mainGlobals "check_frames" = some (some (.ref f2))) (l2 : K.lookup f2 = some ⟨oc2, od2, .func (PySem.W.fnOf "check_frames" "check_frames" (defArgs (topS 15)) (defBody (topS 15)) (defScope (topS 15)) .none kV2 dc2 pm2 an2 cd2 ct2), sl2⟩) (c2 : PySem.W.codeIn K cd2 "check_frames" = true) (k2 : PySem.W.keepIn K (.ref f2) = true)
    {f3 : Addr} {oc3 : Value} {od3 an3 : Option Addr} {sl3 : Array (Option Value)} {kV3 dc3 pm3 cd3 ct3 : Value}
    (a3 : PySem.W.nsIn K mainGlobals "check_uses" = some (some (.ref f3))) (l3 : K.lookup f3 = some ⟨oc3, od3, .func (PySem.W.fnOf "check_uses" "check_uses" (defArgs (topS 16)) (defBody (topS 16)) (defScope (topS 16)) .none kV3 dc3 pm3 an3 cd3 ct3), sl3⟩) (c3 : PySem.W.codeIn K cd3 "check_uses" = true) (k3 : PySem.W.keepIn K (.ref f3) = true)
    {f4 : Addr} {oc4 : Value} {od4 an4 : Option Addr} {sl4 : Array (Option Value)} {kV4 dc4 pm4 cd4 ct4 : Value}
    (a4 : PySem.W.nsIn K mainGlobals "next_marked" = some (some (.ref f4))) (l4 : K.lookup f4 = some ⟨oc4, od4, .func (PySem.W.fnOf "next_marked" "next_marked" (defArgs (topS 17)) (defBody (topS 17)) (defScope (topS 17)) .none kV4 dc4 pm4 an4 cd4 ct4), sl4⟩) (c4 : PySem.W.codeIn K cd4 "next_marked" = true) (k4 : PySem.W.keepIn K (.ref f4) = true)
    {f5 : Addr} {oc5 : Value} {od5 an5 : Option Addr} {sl5 : Array (Option Value)} {kV5 dc5 pm5 cd5 ct5 : Value}
    (a5 : PySem.W.nsIn K mainGlobals "next_store" = some (some (.ref f5))) (l5 : K.lookup f5 = some ⟨oc5, od5, .func (PySem.W.fnOf "next_store" "next_store" (defArgs (topS 18)) (defBody (topS 18)) (defScope (topS 18)) .none kV5 dc5 pm5 an5 cd5 ct5), sl5⟩) (c5 : PySem.W.codeIn K cd5 "next_store" = true) (k5 : PySem.W.keepIn K (.ref f5) = true)
    {f6 : Addr} {oc6 : Value} {od6 an6 : Option Addr} {sl6 : Array (Option Value)} {kV6 dc6 pm6 cd6 ct6 : Value}
    (a6 : PySem.W.nsIn K mainGlobals "run_of" = some (some (.ref f6))) (l6 : K.lookup f6 = some ⟨oc6, od6, .func (PySem.W.fnOf "run_of" "run_of" (defArgs (topS 19)) (defBody (topS 19)) (defScope (topS 19)) .none kV6 dc6 pm6 an6 cd6 ct6), sl6⟩) (c6 : PySem.W.codeIn K cd6 "run_of" = true) (k6 : PySem.W.keepIn K (.ref f6) = true)
    {f7 : Addr} {oc7 : Value} {od7 an7 : Option Addr} {sl7 : Array (Option Value)} {kV7 dc7 pm7 cd7 ct7 : Value}
    (a7 : PySem.W.nsIn K mainGlobals "check_question" = some (some (.ref f7))) (l7 : K.lookup f7 = some ⟨oc7, od7, .func (PySem.W.fnOf "check_question" "check_question" (defArgs (topS 20)) (defBody (topS 20)) (defScope (topS 20)) .none kV7 dc7 pm7 an7 cd7 ct7), sl7⟩) (c7 : PySem.W.codeIn K cd7 "check_question" = true) (k7 : PySem.W.keepIn K (.ref f7) = true)
    {f8 : Addr} {oc8 : Value} {od8 an8 : Option Addr} {sl8 : Array (Option Value)} {kV8 dc8 pm8 cd8 ct8 : Value}
    (a8 : PySem.W.nsIn K mainGlobals "faults" = some (some (.ref f8))) (l8 : K.lookup f8 = some ⟨oc8, od8, .func (PySem.W.fnOf "faults" "faults" (defArgs (topS 21)) (defBody (topS 21)) (defScope (topS 21)) .none kV8 dc8 pm8 an8 cd8 ct8), sl8⟩) (c8 : PySem.W.codeIn K cd8 "faults" = true) (k8 : PySem.W.keepIn K (.ref f8) = true)
    {f9 : Addr} {oc9 : Value} {od9 an9 : Option Addr} {sl9 : Array (Option Value)} {kV9 dc9 pm9 cd9 ct9 : Value}
    (a9 : PySem.W.nsIn K mainGlobals "choice_after" = some (some (.ref f9))) (l9 : K.lookup f9 = some ⟨oc9, od9, .func (PySem.W.fnOf "choice_after" "choice_after" (defArgs (topS 22)) (defBody (topS 22)) (defScope (topS 22)) .none kV9 dc9 pm9 an9 cd9 ct9), sl9⟩) (c9 : PySem.W.codeIn K cd9 "choice_after" = true) (k9 : PySem.W.keepIn K (.ref f9) = true)
    {f10 : Addr} {oc10 : Value} {od10 an10 : Option Addr} {sl10 : Array (Option Value)} {kV10 dc10 pm10 cd10 ct10 : Value}
    (a10 : PySem.W.nsIn K mainGlobals "faults_by" = some (some (.ref f10))) (l10 : K.lookup f10 = some ⟨oc10, od10, .func (PySem.W.fnOf "faults_by" "faults_by" (defArgs (topS 23)) (defBody (topS 23)) (defScope (topS 23)) .none kV10 dc10 pm10 an10 cd10 ct10), sl10⟩) (c10 : PySem.W.codeIn K cd10 "faults_by" = true) (k10 : PySem.W.keepIn K (.ref f10) = true)
    {f11 : Addr} {oc11 : Value} {od11 an11 : Option Addr} {sl11 : Array (Option Value)} {kV11 dc11 pm11 cd11 ct11 : Value}
    (a11 : PySem.W.nsIn K mainGlobals "next_use" = some (some (.ref f11))) (l11 : K.lookup f11 = some ⟨oc11, od11, .func (PySem.W.fnOf "next_use" "next_use" (defArgs (topS 24)) (defBody (topS 24)) (defScope (topS 24)) .none kV11 dc11 pm11 an11 cd11 ct11), sl11⟩) (c11 : PySem.W.codeIn K cd11 "next_use" = true) (k11 : PySem.W.keepIn K (.ref f11) = true)
    {f12 : Addr} {oc12 : Value} {od12 an12 : Option Addr} {sl12 : Array (Option Value)} {kV12 dc12 pm12 cd12 ct12 : Value}
    (a12 : PySem.W.nsIn K mainGlobals "choices_of" = some (some (.ref f12))) (l12 : K.lookup f12 = some ⟨oc12, od12, .func (PySem.W.fnOf "choices_of" "choices_of" (defArgs (topS 25)) (defBody (topS 25)) (defScope (topS 25)) .none kV12 dc12 pm12 an12 cd12 ct12), sl12⟩) (c12 : PySem.W.codeIn K cd12 "choices_of" = true) (k12 : PySem.W.keepIn K (.ref f12) = true)
    {f13 : Addr} {oc13 : Value} {od13 an13 : Option Addr} {sl13 : Array (Option Value)} {kV13 dc13 pm13 cd13 ct13 : Value}
    (a13 : PySem.W.nsIn K mainGlobals "best_choices" = some (some (.ref f13))) (l13 : K.lookup f13 = some ⟨oc13, od13, .func (PySem.W.fnOf "best_choices" "best_choices" (defArgs (topS 26)) (defBody (topS 26)) (defScope (topS 26)) .none kV13 dc13 pm13 an13 cd13 ct13), sl13⟩) (c13 : PySem.W.codeIn K cd13 "best_choices" = true) (k13 : PySem.W.keepIn K (.ref f13) = true)
    {f14 : Addr} {oc14 : Value} {od14 an14 : Option Addr} {sl14 : Array (Option Value)} {kV14 dc14 pm14 cd14 ct14 : Value}
    (a14 : PySem.W.nsIn K mainGlobals "fewest_faults" = some (some (.ref f14))) (l14 : K.lookup f14 = some ⟨oc14, od14, .func (PySem.W.fnOf "fewest_faults" "fewest_faults" (defArgs (topS 27)) (defBody (topS 27)) (defScope (topS 27)) .none kV14 dc14 pm14 an14 cd14 ct14), sl14⟩) (c14 : PySem.W.codeIn K cd14 "fewest_faults" = true) (k14 : PySem.W.keepIn K (.ref f14) = true)
    {f15 : Addr} {oc15 : Value} {od15 an15 : Option Addr} {sl15 : Array (Option Value)} {kV15 dc15 pm15 cd15 ct15 : Value}
    (a15 : PySem.W.nsIn K mainGlobals "_law_mix" = some (some (.ref f15))) (l15 : K.lookup f15 = some ⟨oc15, od15, .func (PySem.W.fnOf "_law_mix" "_law_mix" (defArgs (topS 29)) (defBody (topS 29)) (defScope (topS 29)) .none kV15 dc15 pm15 an15 cd15 ct15), sl15⟩) (c15 : PySem.W.codeIn K cd15 "_law_mix" = true) (k15 : PySem.W.keepIn K (.ref f15) = true)
    {f16 : Addr} {oc16 : Value} {od16 an16 : Option Addr} {sl16 : Array (Option Value)} {kV16 dc16 pm16 cd16 ct16 : Value}
    (a16 : PySem.W.nsIn K mainGlobals "_law_next" = some (some (.ref f16))) (l16 : K.lookup f16 = some ⟨oc16, od16, .func (PySem.W.fnOf "_law_next" "_law_next" (defArgs (topS 30)) (defBody (topS 30)) (defScope (topS 30)) .none kV16 dc16 pm16 an16 cd16 ct16), sl16⟩) (c16 : PySem.W.codeIn K cd16 "_law_next" = true) (k16 : PySem.W.keepIn K (.ref f16) = true)
    {f17 : Addr} {oc17 : Value} {od17 an17 : Option Addr} {sl17 : Array (Option Value)} {kV17 dc17 pm17 cd17 ct17 : Value}
    (a17 : PySem.W.nsIn K mainGlobals "_law_uses" = some (some (.ref f17))) (l17 : K.lookup f17 = some ⟨oc17, od17, .func (PySem.W.fnOf "_law_uses" "_law_uses" (defArgs (topS 31)) (defBody (topS 31)) (defScope (topS 31)) .none kV17 dc17 pm17 an17 cd17 ct17), sl17⟩) (c17 : PySem.W.codeIn K cd17 "_law_uses" = true) (k17 : PySem.W.keepIn K (.ref f17) = true)
    {f21 : Addr} {oc21 : Value} {od21 an21 : Option Addr} {sl21 : Array (Option Value)} {kV21 dc21 pm21 cd21 ct21 : Value}
    (a21 : PySem.W.nsIn K mainGlobals "_law_least" = some (some (.ref f21))) (l21 : K.lookup f21 = some ⟨oc21, od21, .func (PySem.W.fnOf "_law_least" "_law_least" (defArgs (topS 35)) (defBody (topS 35)) (defScope (topS 35)) .none kV21 dc21 pm21 an21 cd21 ct21), sl21⟩) (c21 : PySem.W.codeIn K cd21 "_law_least" = true) (k21 : PySem.W.keepIn K (.ref f21) = true)
    {f22 : Addr} {oc22 : Value} {od22 an22 : Option Addr} {sl22 : Array (Option Value)} {kV22 dc22 pm22 cd22 ct22 : Value}
    (a22 : PySem.W.nsIn K mainGlobals "_law_count" = some (some (.ref f22))) (l22 : K.lookup f22 = some ⟨oc22, od22, .func (PySem.W.fnOf "_law_count" "_law_count" (defArgs (topS 36)) (defBody (topS 36)) (defScope (topS 36)) .none kV22 dc22 pm22 an22 cd22 ct22), sl22⟩) (c22 : PySem.W.codeIn K cd22 "_law_count" = true) (k22 : PySem.W.keepIn K (.ref f22) = true)
    {f23 : Addr} {oc23 : Value} {od23 an23 : Option Addr} {sl23 : Array (Option Value)} {kV23 dc23 pm23 cd23 ct23 : Value}
    (a23 : PySem.W.nsIn K mainGlobals "_law_spoilt" = some (some (.ref f23))) (l23 : K.lookup f23 = some ⟨oc23, od23, .func (PySem.W.fnOf "_law_spoilt" "_law_spoilt" (defArgs (topS 37)) (defBody (topS 37)) (defScope (topS 37)) .none kV23 dc23 pm23 an23 cd23 ct23), sl23⟩) (c23 : PySem.W.codeIn K cd23 "_law_spoilt" = true) (k23 : PySem.W.keepIn K (.ref f23) = true)
    {f24 : Addr} {oc24 : Value} {od24 an24 : Option Addr} {sl24 : Array (Option Value)} {kV24 dc24 pm24 cd24 ct24 : Value}
    (a24 : PySem.W.nsIn K mainGlobals "law" = some (some (.ref f24))) (l24 : K.lookup f24 = some ⟨oc24, od24, .func (PySem.W.fnOf "law" "law" (defArgs (topS 38)) (defBody (topS 38)) (defScope (topS 38)) .none kV24 dc24 pm24 an24 cd24 ct24), sl24⟩) (c24 : PySem.W.codeIn K cd24 "law" = true) (k24 : PySem.W.keepIn K (.ref f24) = true)
    {t0 : Tok} (g0 : PySem.W.nsIn K mainGlobals "FIRST" = some (some (Value.str "first" t0)))
    {t1 : Tok} (g1 : PySem.W.nsIn K mainGlobals "SECOND" = some (some (Value.str "second" t1)))
    {t2_0 t2_1 t2_2 : Tok} {r2 : Addr} {dd2 : Option Addr} {rn2 : Nat} {rs2 : Array (Option Value)} (g2 : PySem.W.nsIn K mainGlobals "RULES" = some (some (.ref r2))) (gl2 : K.lookup r2 = some ⟨.type "tuple", dd2, .seq [Value.str "first" t2_0, Value.str "lately" t2_1, Value.str "second" t2_2].toArray rn2, rs2⟩)
    {t3 : Tok} (g3 : PySem.W.nsIn K mainGlobals "MOST_PAGE" = some (some (Value.int 4 t3)))
    {t4 : Tok} (g4 : PySem.W.nsIn K mainGlobals "MOST_FRAMES" = some (some (Value.int 4 t4)))
    {t5 : Tok} (g5 : PySem.W.nsIn K mainGlobals "MOST_USES" = some (some (Value.int 200 t5)))
    {X0 : Addr} (xa0 : PySem.W.nsIn K mainGlobals "BadPageRule" = some (some (.ref X0))) (xb0 : PySem.W.subIn K (.ref X0) (.type "BaseException") = some true) (xt0 : PySem.W.typeIn K (.ref X0) = some (.type "type")) (xd0 : PySem.W.hasDictIn K X0 = true)
    {X1 : Addr} (xa1 : PySem.W.nsIn K mainGlobals "BadFrames" = some (some (.ref X1))) (xb1 : PySem.W.subIn K (.ref X1) (.type "BaseException") = some true) (xt1 : PySem.W.typeIn K (.ref X1) = some (.type "type")) (xd1 : PySem.W.hasDictIn K X1 = true)
    (xk0 : PySem.W.keepIn K (.ref X0) = true) (xx0 : PySem.W.excIn K X0 [.type "ValueError", .type "Exception", .type "BaseException", .type "object"] "ValueError.__new__" = true)
    (xk1 : PySem.W.keepIn K (.ref X1) = true) (xx1 : PySem.W.excIn K X1 [.type "ValueError", .type "Exception", .type "BaseException", .type "object"] "ValueError.__new__" = true)
    (z0 : PySem.W.nsIn K mainGlobals "len" = some none)
    (z1 : PySem.W.nsIn K mainGlobals "int" = some none)
    (z2 : PySem.W.nsIn K mainGlobals "tuple" = some none)
    (z3 : PySem.W.nsIn K mainGlobals "list" = some none)
    (z4 : PySem.W.nsIn K mainGlobals "max" = some none)
    (z5 : PySem.W.nsIn K mainGlobals "min" = some none)
    (z6 : PySem.W.nsIn K mainGlobals "isinstance" = some none)
    (z7 : PySem.W.nsIn K mainGlobals "bool" = some none)
    (z8 : PySem.W.nsIn K mainGlobals "str" = some none)
    (z9 : PySem.W.nsIn K mainGlobals "dict" = some none)
    (z10 : PySem.W.nsIn K mainGlobals "range" = some none)
    (z11 : PySem.W.nsIn K mainGlobals "enumerate" = some none)
    (z12 : PySem.W.nsIn K mainGlobals "zip" = some none)
    (z13 : PySem.W.nsIn K mainGlobals "sorted" = some none)
    (z14 : PySem.W.nsIn K mainGlobals "all" = some none)
    (z15 : PySem.W.nsIn K mainGlobals "any" = some none)
    (z16 : PySem.W.nsIn K mainGlobals "sum" = some none) :
    ∃ fd : FuncData, (∀ (s : Shared) (v : Value), BindsTo s fd ⟨[v], []⟩ [("_law_script", v)]) ∧ ∀ base : Heap, K.In base → base.Ns mainGlobals mg → FnOk l.prog w K mg base (L2.CX l.prog w) 12 fa fd ["_law_script"] (spL tb K l.prog w ["_law_script"] 12 24) := by
  have e := hfa.symm.trans (PySem.W.mg_of X G a24)
  cases e
  have A : TbAt tb K mg l.prog w := ⟨fns_at (fs := tFns) _ (List.forall_mem_cons.2 ⟨fnAt_mk X G (mt := mt_0) (st := topS 13) a0 l0 c0 k0 sc_0 c_0 (fun _ _ _ _ _ _ us hl => match us, hl with | [_, _, _], _ => rfl),
    (List.forall_mem_cons.2 ⟨fnAt_mk X G (mt := mt_1) (st := topS 14) a1 l1 c1 k1 sc_1 c_1 (fun _ _ _ _ _ _ us hl => match us, hl with | [_], _ => rfl),
    (List.forall_mem_cons.2 ⟨fnAt_mk X G (mt := mt_2) (st := topS 15) a2 l2 c2 k2 sc_2 c_2 (fun _ _ _ _ _ _ us hl => match us, hl with | [_, _], _ => rfl),
    (List.forall_mem_cons.2 ⟨fnAt_mk X G (mt := mt_3) (st := topS 16) a3 l3 c3 k3 sc_3 c_3 (fun _ _ _ _ _ _ us hl => match us, hl with | [_], _ => rfl),
    (List.forall_mem_cons.2 ⟨fnAt_mk X G (mt := mt_4) (st := topS 17) a4 l4 c4 k4 sc_4 c_4 (fun _ _ _ _ _ _ us hl => match us, hl with | [_, _, _], _ => rfl),
    (List.forall_mem_cons.2 ⟨fnAt_mk X G (mt := mt_5) (st := topS 18) a5 l5 c5 k5 sc_5 c_5 (fun _ _ _ _ _ _ us hl => match us, hl with | [_, _, _, _], _ => rfl),
    (List.forall_mem_cons.2 ⟨fnAt_mk X G (mt := mt_6) (st := topS 19) a6 l6 c6 k6 sc_6 c_6 (fun _ _ _ _ _ _ us hl => match us, hl with | [_, _, _], _ => rfl),
    (List.forall_mem_cons.2 ⟨fnAt_mk X G (mt := mt_7) (st := topS 20) a7 l7 c7 k7 sc_7 c_7 (fun _ _ _ _ _ _ us hl => match us, hl with | [_, _, _], _ => rfl),
    (List.forall_mem_cons.2 ⟨fnAt_mk X G (mt := mt_8) (st := topS 21) a8 l8 c8 k8 sc_8 c_8 (fun _ _ _ _ _ _ us hl => match us, hl with | [_, _, _], _ => rfl),
    (List.forall_mem_cons.2 ⟨fnAt_mk X G (mt := mt_9) (st := topS 22) a9 l9 c9 k9 sc_9 c_9 (fun _ _ _ _ _ _ us hl => match us, hl with | [_, _, _, _], _ => rfl),
    (List.forall_mem_cons.2 ⟨fnAt_mk X G (mt := mt_10) (st := topS 23) a10 l10 c10 k10 sc_10 c_10 (fun _ _ _ _ _ _ us hl => match us, hl with | [_, _, _], _ => rfl),
    (List.forall_mem_cons.2 ⟨fnAt_mk X G (mt := mt_11) (st := topS 24) a11 l11 c11 k11 sc_11 c_11 (fun _ _ _ _ _ _ us hl => match us, hl with | [_, _, _], _ => rfl),
    (List.forall_mem_cons.2 ⟨fnAt_mk X G (mt := mt_12) (st := topS 25) a12 l12 c12 k12 sc_12 c_12 (fun _ _ _ _ _ _ us hl => match us, hl with | [_, _], _ => rfl),
    (List.forall_mem_cons.2 ⟨fnAt_mk X G (mt := mt_13) (st := topS 26) a13 l13 c13 k13 sc_13 c_13 (fun _ _ _ _ _ _ us hl => match us, hl with | [_, _], _ => rfl),
    (List.forall_mem_cons.2 ⟨fnAt_mk X G (mt := mt_14) (st := topS 27) a14 l14 c14 k14 sc_14 c_14 (fun _ _ _ _ _ _ us hl => match us, hl with | [_, _], _ => rfl),
    (List.forall_mem_cons.2 ⟨fnAt_mk X G (mt := mt_15) (st := topS 29) a15 l15 c15 k15 sc_15 c_15 (fun _ _ _ _ _ _ us hl => match us, hl with | [_, _], _ => rfl),
    (List.forall_mem_cons.2 ⟨fnAt_mk X G (mt := mt_16) (st := topS 30) a16 l16 c16 k16 sc_16 c_16 (fun _ _ _ _ _ _ us hl => match us, hl with | [_, _], _ => rfl),
    (List.forall_mem_cons.2 ⟨fnAt_mk X G (mt := mt_17) (st := topS 31) a17 l17 c17 k17 sc_17 c_17 (fun _ _ _ _ _ _ us hl => match us, hl with | [_, _, _], _ => rfl),
    (List.forall_mem_cons.2 ⟨fnAt_mk X G (mt := mt_0) (st := topS 13) a0 l0 c0 k0 sc_0 c_0 (fun _ _ _ _ _ _ us hl => match us, hl with | [_, _, _], _ => rfl),
    (List.forall_mem_cons.2 ⟨fnAt_mk X G (mt := mt_0) (st := topS 13) a0 l0 c0 k0 sc_0 c_0 (fun _ _ _ _ _ _ us hl => match us, hl with | [_, _, _], _ => rfl),
    (List.forall_mem_cons.2 ⟨fnAt_mk X G (mt := mt_0) (st := topS 13) a0 l0 c0 k0 sc_0 c_0 (fun _ _ _ _ _ _ us hl => match us, hl with | [_, _, _], _ => rfl),
    (List.forall_mem_cons.2 ⟨fnAt_mk X G (mt := mt_21) (st := topS 35) a21 l21 c21 k21 sc_21 c_21 (fun _ _ _ _ _ _ us hl => match us, hl with | [_, _], _ => rfl),
    (List.forall_mem_cons.2 ⟨fnAt_mk X G (mt := mt_22) (st := topS 36) a22 l22 c22 k22 sc_22 c_22 (fun _ _ _ _ _ _ us hl => match us, hl with | [_, _, _], _ => rfl),
    (List.forall_mem_cons.2 ⟨fnAt_mk X G (mt := mt_23) (st := topS 37) a23 l23 c23 k23 sc_23 c_23 (fun _ _ _ _ _ _ us hl => match us, hl with | [_, _], _ => rfl),
    (List.forall_mem_cons.2 ⟨fnAt_mk X G (mt := mt_24) (st := topS 38) a24 l24 c24 k24 sc_24 c_24 (fun _ _ _ _ _ _ us hl => match us, hl with | [_], _ => rfl),
    (fun _ h => by cases h)⟩)⟩)⟩)⟩)⟩)⟩)⟩)⟩)⟩)⟩)⟩)⟩)⟩)⟩)⟩)⟩)⟩)⟩)⟩)⟩)⟩)⟩)⟩)⟩)⟩),
    con_at (cs := tCon) (List.forall_mem_cons.2 ⟨con_mk X G g0 (v := .str "first") ⟨_, rfl⟩ fun W => rfl,
    (List.forall_mem_cons.2 ⟨con_mk X G g1 (v := .str "second") ⟨_, rfl⟩ fun W => rfl,
    (List.forall_mem_cons.2 ⟨con_mk X G g2 (v := .ref r2) rfl (krel_tup gl2 (Nat.le_of_ble_eq_true rfl) (vs := [.str "first", .str "lately", .str "second"]) (.cons ⟨_, rfl⟩ (.cons ⟨_, rfl⟩ (.cons ⟨_, rfl⟩ .nil))) fun W => ⟨_, _, rfl, rfl, ⟨_, _, rfl, rfl, ⟨_, _, rfl, rfl, rfl⟩⟩⟩),
    (List.forall_mem_cons.2 ⟨con_mk X G g3 (v := .int 4) ⟨_, rfl⟩ fun W => rfl,
    (List.forall_mem_cons.2 ⟨con_mk X G g4 (v := .int 4) ⟨_, rfl⟩ fun W => rfl,
    (List.forall_mem_cons.2 ⟨con_mk X G g5 (v := .int 200) ⟨_, rfl⟩ fun W => rfl,
    (fun _ h => by cases h)⟩)⟩)⟩)⟩)⟩)⟩),
    (show ∀ x ∈ tBlt, mg x = none from (List.forall_mem_cons.2 ⟨PySem.W.mg_none_of X G z0,
    (List.forall_mem_cons.2 ⟨PySem.W.mg_none_of X G z1,
    (List.forall_mem_cons.2 ⟨PySem.W.mg_none_of X G z2,
    (List.forall_mem_cons.2 ⟨PySem.W.mg_none_of X G z3,
    (List.forall_mem_cons.2 ⟨PySem.W.mg_none_of X G z4,
    (List.forall_mem_cons.2 ⟨PySem.W.mg_none_of X G z5,
    (List.forall_mem_cons.2 ⟨PySem.W.mg_none_of X G z6,
    (List.forall_mem_cons.2 ⟨PySem.W.mg_none_of X G z7,
    (List.forall_mem_cons.2 ⟨PySem.W.mg_none_of X G z8,
    (List.forall_mem_cons.2 ⟨PySem.W.mg_none_of X G z9,
    (List.forall_mem_cons.2 ⟨PySem.W.mg_none_of X G z10,
    (List.forall_mem_cons.2 ⟨PySem.W.mg_none_of X G z11,
    (List.forall_mem_cons.2 ⟨PySem.W.mg_none_of X G z12,
    (List.forall_mem_cons.2 ⟨PySem.W.mg_none_of X G z13,
    (List.forall_mem_cons.2 ⟨PySem.W.mg_none_of X G z14,
    (List.forall_mem_cons.2 ⟨PySem.W.mg_none_of X G z15,
    (List.forall_mem_cons.2 ⟨PySem.W.mg_none_of X G z16,
    (fun _ h => by cases h)⟩)⟩)⟩)⟩)⟩)⟩)⟩)⟩)⟩)⟩)⟩)⟩)⟩)⟩)⟩)⟩)⟩)), (show ∀ x ∈ tExs, ExCls K mg x from (List.forall_mem_cons.2 ⟨⟨X0, PySem.W.mg_of X G xa0, xk0, xx0, xb0, xt0⟩,
    (List.forall_mem_cons.2 ⟨⟨X1, PySem.W.mg_of X G xa1, xk1, xx1, xb1, xt1⟩,
    (fun _ h => by cases h)⟩)⟩)), (show ∀ x ∈ tExm, ExMat K mg x from (fun _ h => by cases h))⟩
  exact ⟨PySem.W.fnOf "law" "law" (defArgs (topS 38)) (defBody (topS 38)) (defScope (topS 38)) .none kV24 dc24 pm24 an24 cd24 ct24, fun s v => .of_eq rfl, fun base _ _ => FnOk.imp (all_ok A 12 24 ⟨"law", ["_law_script"], n_24, b_24, false⟩ rfl _ _ ⟨topS 38, "law", "law", mt_24, fun_mk l24 c24 k24, sc_24, c_24⟩) (fun _ _ _ _ q => q _)⟩
/-- the law's own run -/
def Run : Prop := ∀ ns : List Int, ns.length ≤ 63 → ∃ M', callF tb 12 24 [.lst (ns.map .int)] [] = .ok (.bl true) M'
end K49

/-! runs of a store of f frames, on demand -/
namespace PG
inductive Run (f : Nat) : List Int → List Int → List Int → Nat → Prop
  | nil {l e : List Int} (h : l.Perm e) : Run f l [] e 0
  | hit {l us e : List Int} {p : Int} {n : Nat} (hp : p ∈ l) (h : Run f l us e n) : Run f l (p :: us) e n
  | add {l us e : List Int} {p : Int} {n : Nat} (hp : p ∉ l) (hl : l.length < f) (h : Run f (p :: l) us e n) : Run f l (p :: us) e (n + 1)
  | out {l us e r : List Int} {p c : Int} {n : Nat} (hp : p ∉ l) (hl : l.length = f) (hr : l.Perm (c :: r)) (h : Run f (p :: r) us e n) : Run f l (p :: us) e (n + 1)
variable {f : Nat}
theorem Run.perm {l us e : List Int} {n : Nat} (h : Run f l us e n) : ∀ {l' : List Int}, l.Perm l' → Run f l' us e n := by
  induction h with
  | nil h => intro l' p; exact .nil (p.symm.trans h)
  | hit hp h ih => intro l' p; exact .hit (p.mem_iff.mp hp) (ih p)
  | add hp hl h ih => intro l' p; exact .add (fun q => hp (p.mem_iff.mpr q)) (by rw [← p.length_eq]; exact hl) (ih (p.cons _))
  | out hp hl hr h ih => intro l' p; exact .out (fun q => hp (p.mem_iff.mpr q)) (by rw [← p.length_eq]; exact hl) (p.symm.trans hr) h
theorem Run.endp {l us e : List Int} {n : Nat} (h : Run f l us e n) : ∀ {e' : List Int}, e.Perm e' → Run f l us e' n := by
  induction h with
  | nil h => intro l' p; exact .nil (h.trans p)
  | hit hp h ih => intro l' p; exact .hit hp (ih p)
  | add hp hl h ih => intro l' p; exact .add hp hl (ih p)
  | out hp hl hr h ih => intro l' p; exact .out hp hl hr (ih p)
theorem Run.app {l us e : List Int} {n : Nat} (h : Run f l us e n) : ∀ {vs e' : List Int} {m : Nat}, Run f e vs e' m → Run f l (us ++ vs) e' (n + m) := by
  induction h with
  | nil h => intro vs e' m q; simpa using q.perm h.symm
  | hit hp h ih => intro vs e' m q; exact .hit hp (ih q)
  | add hp hl h ih => intro vs e' m q; rw [Nat.add_right_comm]; exact .add hp hl (ih q)
  | out hp hl hr h ih => intro vs e' m q; rw [Nat.add_right_comm]; exact .out hp hl hr (ih q)
/-- there is a run from l of at most n faults -/
def Le (f : Nat) (l us : List Int) (n : Nat) : Prop := ∃ e m, Run f l us e m ∧ m ≤ n
theorem Le.mono {l us : List Int} {n m : Nat} (h : Le f l us n) (hm : n ≤ m) : Le f l us m := let ⟨e, k, h1, h2⟩ := h; ⟨e, k, h1, by omega⟩
theorem Le.perm {l l' us : List Int} {n : Nat} (h : Le f l us n) (p : l.Perm l') : Le f l' us n := let ⟨e, k, h1, h2⟩ := h; ⟨e, k, h1.perm p, h2⟩
theorem Le.hit {l us : List Int} {p : Int} {n : Nat} (hp : p ∈ l) (h : Le f l us n) : Le f l (p :: us) n := let ⟨e, k, h1, h2⟩ := h; ⟨e, k, .hit hp h1, h2⟩
theorem Le.add {l us : List Int} {p : Int} {n : Nat} (hp : p ∉ l) (hl : l.length < f) (h : Le f (p :: l) us n) : Le f l (p :: us) (n + 1) := let ⟨e, k, h1, h2⟩ := h; ⟨e, k + 1, .add hp hl h1, by omega⟩
theorem Le.out {l us r : List Int} {p c : Int} {n : Nat} (hp : p ∉ l) (hl : l.length = f) (hr : l.Perm (c :: r)) (h : Le f (p :: r) us n) : Le f l (p :: us) (n + 1) := let ⟨e, k, h1, h2⟩ := h; ⟨e, k + 1, .out hp hl hr h1, by omega⟩
theorem swap2 (a b : Int) (t : List Int) : (a :: b :: t).Perm (b :: a :: t) := List.Perm.swap _ _ _
/-- more pages in frames: no more faults -/
theorem more {a : Int} {l us e : List Int} {n : Nat} (h : Run f l us e n) (ha : a ∉ l) (hl : l.length < f) : Le f (a :: l) us n := by
  induction h with
  | nil h => exact ⟨_, 0, .nil (List.Perm.refl _), Nat.le_refl _⟩
  | hit hp h ih => exact (ih ha hl).hit (List.mem_cons_of_mem _ hp)
  | @add l us e p n hp hl' h ih =>
    by_cases e1 : p = a
    · subst e1
      exact Le.mono (Le.hit (List.mem_cons_self) ⟨_, _, h, Nat.le_refl _⟩) (Nat.le_succ _)
    · have hp' : p ∉ a :: l := by simp only [List.mem_cons, not_or]; exact ⟨e1, hp⟩
      by_cases h2 : (a :: l).length < f
      · have := ih (by simp only [List.mem_cons, not_or]; exact ⟨fun q => e1 q.symm, ha⟩) h2
        exact Le.add hp' h2 (this.perm (swap2 _ _ _))
      · exact Le.out hp' (by simp only [List.length_cons] at h2 ⊢; omega) (List.Perm.refl _) ⟨_, _, h, Nat.le_refl _⟩
  | out hp hl' hr h ih => omega
/-- one page for another, or one page less: at most one fault more -/
theorem near {Y us e : List Int} {n : Nat} (h : Run f Y us e n) : Y.Nodup → Y.length ≤ f → (∀ a b t, Y.Perm (b :: t) → a ∉ t → Le f (a :: t) us (n + 1)) ∧ (∀ b t, Y.Perm (b :: t) → Le f t us (n + 1)) := by
  induction h with
  | nil h => exact fun _ _ => ⟨fun a b t _ _ => ⟨_, 0, .nil (List.Perm.refl _), Nat.zero_le _⟩, fun b t _ => ⟨_, 0, .nil (List.Perm.refl _), Nat.zero_le _⟩⟩
  | @hit Y us e p n hp h ih =>
    intro nd hl
    have ih := ih nd hl
    constructor
    · intro a b t hY ha
      by_cases hpt : p ∈ t
      · exact (ih.1 a b t hY ha).hit (List.mem_cons_of_mem _ hpt)
      by_cases hpa : p = a
      · exact (ih.1 a b t hY ha).hit (by simp [hpa])
      have hpb : p = b := by
        rcases List.mem_cons.mp (hY.mem_iff.mp hp) with q | q
        · exact q
        · exact absurd q hpt
      subst hpb
      have hlen : (a :: t).length = Y.length := by rw [hY.length_eq]; rfl
      have hp' : p ∉ a :: t := by simp only [List.mem_cons, not_or]; exact ⟨hpa, hpt⟩
      by_cases h2 : (a :: t).length < f
      · have := more (h.perm hY) (a := a) (by simp only [List.mem_cons, not_or]; exact ⟨fun q => hpa q.symm, ha⟩) (by simp only [List.length_cons] at h2 ⊢; omega)
        exact Le.add hp' h2 (this.perm (swap2 _ _ _))
      · exact Le.out hp' (by omega) (List.Perm.refl _) ⟨_, _, h.perm hY, Nat.le_refl _⟩
    · intro b t hY
      by_cases hpt : p ∈ t
      · exact (ih.2 b t hY).hit hpt
      have hpb : p = b := by
        rcases List.mem_cons.mp (hY.mem_iff.mp hp) with q | q
        · exact q
        · exact absurd q hpt
      subst hpb
      exact Le.add hpt (by have := hY.length_eq; simp only [List.length_cons] at this; omega) ⟨_, _, h.perm hY, Nat.le_refl _⟩
  | @add Y us e p n hp hl' h ih =>
    intro nd hl
    have ih := ih (List.nodup_cons.mpr ⟨hp, nd⟩) (by simp only [List.length_cons]; omega)
    constructor
    · intro a b t hY ha
      have hpt : p ∉ t := fun q => hp (hY.mem_iff.mpr (List.mem_cons_of_mem _ q))
      have hpb : p ≠ b := fun q => hp (hY.mem_iff.mpr (by simp [q]))
      have hlen : t.length + 1 = Y.length := by rw [hY.length_eq]; rfl
      by_cases hpa : p = a
      · subst hpa
        have := ih.2 b (p :: t) ((hY.cons p).trans (swap2 _ _ _))
        exact Le.mono (this.hit (by simp)) (by omega)
      · have := ih.1 a b (p :: t) ((hY.cons p).trans (swap2 _ _ _)) (by simp only [List.mem_cons, not_or]; exact ⟨fun q => hpa q.symm, ha⟩)
        exact Le.add (by simp only [List.mem_cons, not_or]; exact ⟨hpa, hpt⟩) (by simp only [List.length_cons]; omega) (this.perm (swap2 _ _ _))
    · intro b t hY
      have hpt : p ∉ t := fun q => hp (hY.mem_iff.mpr (List.mem_cons_of_mem _ q))
      have hlen : t.length + 1 = Y.length := by rw [hY.length_eq]; rfl
      have := ih.2 b (p :: t) ((hY.cons p).trans (swap2 _ _ _))
      exact Le.add hpt (by omega) this
  | @out Y us e r p c n hp hl' hr h ih =>
    intro nd hl
    have hlr : r.length + 1 = f := by rw [← hl', hr.length_eq]; rfl
    have hrp : p ∉ r := fun q => hp (hr.mem_iff.mpr (List.mem_cons_of_mem _ q))
    have ndr : (c :: r).Nodup := hr.nodup_iff.mp nd
    have ih := ih (List.nodup_cons.mpr ⟨hrp, (List.nodup_cons.mp ndr).2⟩) (by simp only [List.length_cons]; omega)
    have aft : ∀ b t, Y.Perm (b :: t) → c ≠ b → c ∈ t ∧ t.Perm (c :: t.erase c) ∧ r.Perm (b :: t.erase c) ∧ c ∉ t.erase c := by
      intro b t hY hcb
      have hct : c ∈ t := by
        rcases List.mem_cons.mp (hY.mem_iff.mp (hr.mem_iff.mpr (List.mem_cons_self))) with q | q
        · exact absurd q hcb
        · exact q
      have hte := List.perm_cons_erase hct
      refine ⟨hct, hte, (List.perm_cons c).mp (hr.symm.trans (hY.trans ((hte.cons b).trans (swap2 _ _ _)))), ?_⟩
      have := hte.nodup_iff.mp (List.nodup_cons.mp (hY.nodup_iff.mp nd)).2
      exact (List.nodup_cons.mp this).1
    constructor
    · intro a b t hY ha
      have hpt : p ∉ t := fun q => hp (hY.mem_iff.mpr (List.mem_cons_of_mem _ q))
      have hpb : p ≠ b := fun q => hp (hY.mem_iff.mpr (by simp [q]))
      have hlen : t.length + 1 = Y.length := by rw [hY.length_eq]; rfl
      by_cases hcb : c = b
      · subst hcb
        have hrt : r.Perm t := (List.perm_cons c).mp (hr.symm.trans hY)
        by_cases hpa : p = a
        · subst hpa
          exact Le.mono (Le.hit (by simp) ⟨_, _, h.perm (hrt.cons p), Nat.le_refl _⟩) (by omega)
        · exact Le.mono (Le.out (by simp only [List.mem_cons, not_or]; exact ⟨hpa, hpt⟩) (by simp only [List.length_cons]; omega) (List.Perm.refl _) ⟨_, _, h.perm (hrt.cons p), Nat.le_refl _⟩) (by omega)
      · obtain ⟨hct, hte, hre, hc2⟩ := aft b t hY hcb
        by_cases hpa : p = a
        · subst hpa
          have hct' : c ≠ p := fun q => hpt (q ▸ hct)
          have : Le f (c :: p :: t.erase c) us (n + 1) := ih.1 c b (p :: t.erase c) ((hre.cons p).trans (swap2 _ _ _)) (by simp only [List.mem_cons, not_or]; exact ⟨hct', hc2⟩)
          exact Le.mono (Le.hit (by simp) (this.perm ((swap2 _ _ _).trans (hte.symm.cons p)))) (by omega)
        · have : Le f (a :: p :: t.erase c) us (n + 1) := ih.1 a b (p :: t.erase c) ((hre.cons p).trans (swap2 _ _ _)) (by simp only [List.mem_cons, not_or]; exact ⟨fun q => hpa q.symm, fun q => ha (List.mem_of_mem_erase q)⟩)
          exact Le.out (by simp only [List.mem_cons, not_or]; exact ⟨hpa, hpt⟩) (by simp only [List.length_cons]; omega) ((hte.cons a).trans (swap2 _ _ _)) (this.perm (swap2 _ _ _))
    · intro b t hY
      have hpt : p ∉ t := fun q => hp (hY.mem_iff.mpr (List.mem_cons_of_mem _ q))
      have hlen : t.length + 1 = Y.length := by rw [hY.length_eq]; rfl
      by_cases hcb : c = b
      · subst hcb
        have hrt : r.Perm t := (List.perm_cons c).mp (hr.symm.trans hY)
        exact Le.mono (Le.add hpt (by omega) ⟨_, _, h.perm (hrt.cons p), Nat.le_refl _⟩) (by omega)
      · obtain ⟨hct, hte, hre, hc2⟩ := aft b t hY hcb
        have hct' : c ≠ p := fun q => hpt (q ▸ hct)
        have : Le f (c :: p :: t.erase c) us (n + 1) := ih.1 c b (p :: t.erase c) ((hre.cons p).trans (swap2 _ _ _)) (by simp only [List.mem_cons, not_or]; exact ⟨hct', hc2⟩)
        exact Le.add hpt (by omega) (this.perm ((swap2 _ _ _).trans (hte.symm.cons p)))
/-- how far the next use of a page is; as long as the row if there is none -/
def nu (a : Int) : List Int → Nat
  | [] => 0
  | p :: us => if p = a then 0 else nu a us + 1
/-- the page that is used sooner is the better one to hold -/
theorem swap {Y us e : List Int} {n : Nat} (h : Run f Y us e n) : ∀ a b t, Y.Nodup → Y.length ≤ f → Y.Perm (b :: t) → a ∉ t → nu a us ≤ nu b us → Le f (a :: t) us n := by
  induction h with
  | nil h => exact fun _ _ _ _ _ _ _ _ => ⟨_, 0, .nil (List.Perm.refl _), Nat.zero_le _⟩
  | @hit Y us e p n hp h ih =>
    intro a b t nd hl hY ha hn
    by_cases hpb : p = b
    · subst hpb
      have : p = a := by
        simp only [nu, if_true] at hn
        by_cases q : p = a
        · exact q
        · simp [q] at hn
      subst this
      exact ⟨_, _, .hit (by simp) (h.perm hY), Nat.le_refl _⟩
    have hpt : p ∈ t := by
      rcases List.mem_cons.mp (hY.mem_iff.mp hp) with q | q
      · exact absurd q hpb
      · exact q
    have hpa : p ≠ a := fun q => ha (q ▸ hpt)
    simp only [nu, if_neg hpa, if_neg hpb] at hn
    exact (ih a b t nd hl hY ha (by omega)).hit (List.mem_cons_of_mem _ hpt)
  | @add Y us e p n hp hl' h ih =>
    intro a b t nd hl hY ha hn
    have hpt : p ∉ t := fun q => hp (hY.mem_iff.mpr (List.mem_cons_of_mem _ q))
    have hpb : p ≠ b := fun q => hp (hY.mem_iff.mpr (by simp [q]))
    have hlen : t.length + 1 = Y.length := by rw [hY.length_eq]; rfl
    have nd' := List.nodup_cons.mpr ⟨hp, nd⟩
    have pm := (hY.cons p).trans (swap2 p b t)
    by_cases hpa : p = a
    · subst hpa
      exact ((near h nd' (by simp only [List.length_cons]; omega)).2 b (p :: t) pm).hit (by simp)
    · simp only [nu, if_neg hpa, if_neg hpb] at hn
      have := ih a b (p :: t) nd' (by simp only [List.length_cons]; omega) pm (by simp only [List.mem_cons, not_or]; exact ⟨fun q => hpa q.symm, ha⟩) (by omega)
      exact Le.add (by simp only [List.mem_cons, not_or]; exact ⟨hpa, hpt⟩) (by simp only [List.length_cons]; omega) (this.perm (swap2 _ _ _))
  | @out Y us e r p c n hp hl' hr h ih =>
    intro a b t nd hl hY ha hn
    have hpt : p ∉ t := fun q => hp (hY.mem_iff.mpr (List.mem_cons_of_mem _ q))
    have hpb : p ≠ b := fun q => hp (hY.mem_iff.mpr (by simp [q]))
    have hlen : t.length + 1 = Y.length := by rw [hY.length_eq]; rfl
    have hlr : r.length + 1 = f := by rw [← hl', hr.length_eq]; rfl
    have hrp : p ∉ r := fun q => hp (hr.mem_iff.mpr (List.mem_cons_of_mem _ q))
    have ndr : (c :: r).Nodup := hr.nodup_iff.mp nd
    have nd' := List.nodup_cons.mpr ⟨hrp, (List.nodup_cons.mp ndr).2⟩
    have hl2 : (p :: r).length ≤ f := by simp only [List.length_cons]; omega
    by_cases hcb : c = b
    · subst hcb
      have hrt : r.Perm t := (List.perm_cons c).mp (hr.symm.trans hY)
      by_cases hpa : p = a
      · subst hpa
        exact Le.mono (Le.hit (by simp) ⟨_, _, h.perm (hrt.cons p), Nat.le_refl _⟩) (by omega)
      · exact Le.out (by simp only [List.mem_cons, not_or]; exact ⟨hpa, hpt⟩) (by simp only [List.length_cons]; omega) (List.Perm.refl _) ⟨_, _, h.perm (hrt.cons p), Nat.le_refl _⟩
    · have hct : c ∈ t := by
        rcases List.mem_cons.mp (hY.mem_iff.mp (hr.mem_iff.mpr (List.mem_cons_self))) with q | q
        · exact absurd q hcb
        · exact q
      have hte := List.perm_cons_erase hct
      have hre : r.Perm (b :: t.erase c) := (List.perm_cons c).mp (hr.symm.trans (hY.trans ((hte.cons b).trans (swap2 _ _ _))))
      have hc2 : c ∉ t.erase c := (List.nodup_cons.mp (hte.nodup_iff.mp (List.nodup_cons.mp (hY.nodup_iff.mp nd)).2)).1
      have hct' : c ≠ p := fun q => hpt (q ▸ hct)
      have pm : (p :: r).Perm (b :: p :: t.erase c) := (hre.cons p).trans (swap2 _ _ _)
      by_cases hpa : p = a
      · subst hpa
        have := (near h nd' hl2).1 c b (p :: t.erase c) pm (by simp only [List.mem_cons, not_or]; exact ⟨hct', hc2⟩)
        exact Le.hit (by simp) (this.perm ((swap2 _ _ _).trans (hte.symm.cons p)))
      · simp only [nu, if_neg hpa, if_neg hpb] at hn
        have := ih a b (p :: t.erase c) nd' hl2 pm (by simp only [List.mem_cons, not_or]; exact ⟨fun q => hpa q.symm, fun q => ha (List.mem_of_mem_erase q)⟩) (by omega)
        exact Le.out (by simp only [List.mem_cons, not_or]; exact ⟨hpa, hpt⟩) (by simp only [List.length_cons]; omega) ((hte.cons a).trans (swap2 _ _ _)) (this.perm (swap2 _ _ _))
/-- a way of choosing that puts out the page that is used last: no run has fewer faults -/
inductive Far (f : Nat) : List Int → List Int → List Int → Nat → Prop
  | nil {l : List Int} : Far f l [] l 0
  | hit {l us e : List Int} {p : Int} {n : Nat} (hp : p ∈ l) (h : Far f l us e n) : Far f l (p :: us) e n
  | add {l us e : List Int} {p : Int} {n : Nat} (hp : p ∉ l) (hl : l.length < f) (h : Far f (l ++ [p]) us e n) : Far f l (p :: us) e (n + 1)
  | out {l us e r : List Int} {p c : Int} {n : Nat} (hp : p ∉ l) (hl : l.length = f) (hr : l.Perm (c :: r)) (far : ∀ x ∈ l, nu x us ≤ nu c us) (h : Far f (r ++ [p]) us e n) : Far f l (p :: us) e (n + 1)
theorem snoc (l : List Int) (p : Int) : (l ++ [p]).Perm (p :: l) := List.perm_append_comm
theorem Far.run {l us e : List Int} {n : Nat} (h : Far f l us e n) : Run f l us e n := by
  induction h with
  | nil => exact .nil (List.Perm.refl _)
  | hit hp h ih => exact .hit hp ih
  | add hp hl h ih => exact .add hp hl (ih.perm (snoc _ _))
  | out hp hl hr far h ih => exact .out hp hl hr (ih.perm (snoc _ _))
theorem Far.least {l us e : List Int} {n : Nat} (h : Far f l us e n) : ∀ {e' : List Int} {m : Nat}, l.Nodup → l.length ≤ f → Run f l us e' m → n ≤ m := by
  induction h with
  | nil => intros; omega
  | hit hp h ih =>
    intro e' m nd hl q
    cases q with
    | hit _ q => exact ih nd hl q
    | add hp' => exact absurd hp hp'
    | out hp' => exact absurd hp hp'
  | add hp hl' h ih =>
    intro e' m nd hl q
    cases q with
    | hit hp' => exact absurd hp' hp
    | add _ _ q => exact Nat.succ_le_succ (ih ((snoc _ _).nodup_iff.mpr (List.nodup_cons.mpr ⟨hp, nd⟩)) (by simp only [List.length_append, List.length_cons, List.length_nil]; omega) (q.perm (snoc _ _).symm))
    | out _ hl2 => omega
  | @out l us e r p c n hp hl' hr far h ih =>
    intro e' m nd hl q
    have hlr : r.length + 1 = f := by rw [← hl', hr.length_eq]; rfl
    have hrp : p ∉ r := fun q => hp (hr.mem_iff.mpr (List.mem_cons_of_mem _ q))
    have ndr : (c :: r).Nodup := hr.nodup_iff.mp nd
    have nd' : (r ++ [p]).Nodup := (snoc _ _).nodup_iff.mpr (List.nodup_cons.mpr ⟨hrp, (List.nodup_cons.mp ndr).2⟩)
    have hl2 : (r ++ [p]).length ≤ f := by simp only [List.length_append, List.length_cons, List.length_nil]; omega
    cases q with
    | hit hp' => exact absurd hp' hp
    | add _ hl3 => omega
    | @out _ _ _ r' _ c' m' _ _ hr' q =>
      by_cases hcc : c' = c
      · subst hcc
        have : r'.Perm r := (List.perm_cons c').mp (hr'.symm.trans hr)
        exact Nat.succ_le_succ (ih nd' hl2 (q.perm ((this.cons p).trans (snoc _ _).symm)))
      · -- r' holds c, r holds c'
        have hc : c ∈ r' := by
          rcases List.mem_cons.mp (hr'.mem_iff.mp (hr.mem_iff.mpr (List.mem_cons_self))) with z | z
          · exact absurd z.symm hcc
          · exact z
        have h1 := List.perm_cons_erase hc
        have h2 : r.Perm (c' :: r'.erase c) := (List.perm_cons c).mp (hr.symm.trans (hr'.trans ((h1.cons c').trans (swap2 _ _ _))))
        have hrp' : p ∉ r' := fun q => hp (hr'.mem_iff.mpr (List.mem_cons_of_mem _ q))
        have ndr' : (c' :: r').Nodup := hr'.nodup_iff.mp nd
        have hpc' : p ≠ c' := fun z => hp (z ▸ hr'.mem_iff.mpr (List.mem_cons_self))
        have := swap q c' c (p :: r'.erase c) (List.nodup_cons.mpr ⟨hrp', (List.nodup_cons.mp ndr').2⟩) (by have := hr'.length_eq; simp only [List.length_cons] at this ⊢; omega) ((h1.cons p).trans (swap2 _ _ _)) (by simp only [List.mem_cons, not_or]; exact ⟨fun z => hpc' z.symm, fun z => (List.nodup_cons.mp ndr').1 (List.mem_of_mem_erase z)⟩) (far c' (hr'.mem_iff.mpr (List.mem_cons_self)))
        obtain ⟨e2, k, h3, h4⟩ := this
        have := ih nd' hl2 (h3.perm ((swap2 _ _ _).trans ((h2.symm.cons p).trans (snoc _ _).symm)))
        omega
end PG

namespace K49
open PySem L2 RI
theorem is_from (n : Nat) (v lo hi : Int) (M : Mem) : callF tb (n + 1) 0 [.int v, .int lo, .int hi] M = .ok (.bl (decide (lo ≤ v) && decide (v ≤ hi))) M := by
  show retOf false M.length (b_0 (callF tb n) [some (.int v), some (.int lo), some (.int hi)] M) = _
  simp [b_0, D.ty, isiB]
  by_cases h : lo ≤ v <;> simp [h]
def wFirst : List Nat := [102, 105, 114, 115, 116]
def wLately : List Nat := [108, 97, 116, 101, 108, 121]
def wSecond : List Nat := [115, 101, 99, 111, 110, 100]
def IsRule (w : List Nat) : Prop := w = wFirst ∨ w = wLately ∨ w = wSecond
theorem check_page_rule (n : Nat) (w : List Nat) (hw : IsRule w) (M : Mem) : callF tb (n + 1) 1 [.str w] M = .ok .non M := by
  show retOf false M.length (b_1 (callF tb n) [some (.str w)] M) = _
  have h : ∀ M, inD true (.str w) (.tup [.str [102, 105, 114, 115, 116], .str [108, 97, 116, 101, 108, 121], .str [115, 101, 99, 111, 110, 100]]) M = .ok (.bl false) M := by
    intro M
    rcases hw with rfl | rfl | rfl <;> kernel_rfl
  simp [b_1, D.ty, isiB, h, truD]
theorem check_frames (n : Nat) (f m : Int) (h1 : 1 ≤ f) (h2 : f ≤ m) (M : Mem) : callF tb (n + 2) 2 [.int f, .int m] M = .ok .non M := by
  show retOf false M.length (b_2 (callF tb (n + 1)) [some (.int f), some (.int m)] M) = _
  simp [b_2, is_from, h1, h2, truD]

theorem uses_loop (n : Nat) (v : D) : ∀ (us : List Int) (k : Nat) (a b : Option D) (M : Mem), (∀ u ∈ us, 0 ≤ u ∧ u ≤ 4) →
    ∃ a' b', forG none fg_3_0 fb_3_0 (callF tb (n + 1)) (enumD k (us.map D.int)) [some v, a, b] M = .ok (.next [some v, a', b']) M
  | [], k, a, b, M, _ => ⟨a, b, rfl⟩
  | u :: us, k, a, b, M, h => by
    obtain ⟨h1, h2⟩ := h u List.mem_cons_self
    obtain ⟨a', b', ih⟩ := uses_loop n v us (k + 1) (some (.int k)) (some (.int u)) M fun w hw => h w (List.mem_cons_of_mem _ hw)
    refine ⟨a', b', ?_⟩
    rw [← ih]
    simp [forG, enumD, fg_3_0, fb_3_0, is_from, h1, h2, truD]
theorem check_uses (n : Nat) (us : List Int) (h : ∀ u ∈ us, 0 ≤ u ∧ u ≤ 4) (hl : us.length ≤ 200) (M : Mem) : callF tb (n + 2) 3 [.tup (us.map D.int)] M = .ok .non M := by
  show retOf false M.length (b_3 (callF tb (n + 1)) [some (.tup (us.map D.int)), none, none] M) = _
  obtain ⟨a', b', e⟩ := uses_loop n (.tup (us.map D.int)) us 0 none none M h
  have hl' : ¬ (200 : Int) < us.length := by omega
  simp [b_3, D.ty, isiB, truD, len_of, hl', e]
theorem check_question (n : Nat) (w : List Nat) (hw : IsRule w) (f : Int) (h1 : 1 ≤ f) (h2 : f ≤ 4) (us : List Int) (h : ∀ u ∈ us, 0 ≤ u ∧ u ≤ 4) (hl : us.length ≤ 200) (M : Mem) :
    callF tb (n + 3) 7 [.str w, .int f, .tup (us.map D.int)] M = .ok .non M := by
  show retOf false M.length (b_7 (callF tb (n + 2)) [some (.str w), some (.int f), some (.tup (us.map D.int))] M) = _
  simp [b_7, check_page_rule _ w hw, check_frames _ f 4 h1 h2, check_uses _ us h hl]
/-! first, lately -/
def stepA (lately : Bool) (fr : Nat) (row : List Int) (p : Int) : List Int × Bool :=
  if p ∈ row then (if lately then row.filter (fun x => decide (x ≠ p)) ++ [p] else row, false)
  else ((if row.length = fr then row.drop 1 else row) ++ [p], true)
theorem lc_5 (F : FT) (a b c : Option D) (p : Int) : ∀ (l : List Int) (M : Mem), lcG none lg_5_0 lt_5_0 le_5_0 F [a, b, c, some (.int p), none] (l.map D.int) M = .ok ((l.filter (fun x => decide (x ≠ p))).map D.int) M
  | [], M => rfl
  | x :: l, M => by
    have ih := lc_5 F a b c p l M
    by_cases h : x = p
    · simp [lcG, lg_5_0, lt_5_0, le_5_0, h] at ih ⊢
      exact ih
    · simp [lcG, lg_5_0, lt_5_0, le_5_0, h] at ih ⊢
      rw [ih]; rfl
theorem eq_word (w v : List Nat) (hw : IsRule w) (hv : IsRule v) (M : Mem) : eqD false (.str w) (.str v) M = .ok (.bl (decide (w = v))) M := by
  have k : ∀ u, IsRule u → u.all (· < 1114112) = true := by
    intro u hu
    rcases hu with rfl | rfl | rfl <;> decide
  rw [eq_ss (k w hw) (k v hv)]; rfl
end K49

namespace K49
open PySem L2 RI
theorem rule_first : IsRule wFirst := .inl rfl
theorem rule_lately : IsRule wLately := .inr (.inl rfl)
theorem rule_second : IsRule wSecond := .inr (.inr rfl)
def wA (lately : Bool) : List Nat := if lately then wLately else wFirst
theorem rule_A (b : Bool) : IsRule (wA b) := by cases b; exact rule_first; exact rule_lately
theorem eqA_S (b : Bool) (M : Mem) : eqD false (.str (wA b)) (.str [115, 101, 99, 111, 110, 100]) M = .ok (.bl false) M := by cases b <;> kernel_rfl
theorem eqA_F (b : Bool) (M : Mem) : eqD false (.str (wA b)) (.str [102, 105, 114, 115, 116]) M = .ok (.bl (!b)) M := by cases b <;> kernel_rfl
theorem eqA_L (b : Bool) (M : Mem) : eqD false (.str (wA b)) (.str [108, 97, 116, 101, 108, 121]) M = .ok (.bl b) M := by cases b <;> kernel_rfl
theorem prog_stepA (n : Nat) (b : Bool) (fr : Nat) (row : List Int) (p : Int) (hl : row.length ≤ 100) (M : Mem) :
    callF tb (n + 1) 5 [.str (wA b), .int fr, .tup (row.map D.int), .int p] M = .ok (.tup [.tup ((stepA b fr row p).1.map D.int), .bl (stepA b fr row p).2]) M := by
  show retOf false M.length (b_5 (callF tb n) [some (.str (wA b)), some (.int fr), some (.tup (row.map D.int)), some (.int p), none] M) = _
  have e1 := eqA_S b
  have e2 := eqA_F b
  have hin := fun M => in_ints false p row M (d := .tup (row.map D.int)) rfl
  have hlen := fun M => len_of (M := M) (d := .tup (row.map D.int)) rfl
  have hf : (row.filter fun x => decide (x ≠ p)).length ≤ row.length := List.length_filter_le _ _
  have z1 : (row.filter fun x => !decide (x = p)).length + 1 ≤ 16777216 := by simp at hf; omega
  have z2 : row.length + 1 ≤ 16777216 := by omega
  have z3 : row.length ≤ 16777216 := by omega
  have z4 : row.length - 1 + 1 ≤ 16777216 := by omega
  by_cases hp : p ∈ row
  · cases b with
    | true =>
      simp [b_5, e1, e2, hin, hp, stepA, wipeE, lc_5, LIM, z3, tup_of, add_tup, z1]
    | false =>
      simp [b_5, e1, e2, hin, hp, stepA, LIM]
  · by_cases hfr : row.length = fr
    · subst hfr
      simp [b_5, e1, e2, hin, hp, stepA, hlen, slT, cut_1, LIM, add_tup, z4]
    · have hfr' : ¬ (row.length : Int) = fr := by omega
      simp [b_5, e1, e2, hin, hp, stepA, hlen, hfr, hfr', LIM, add_tup, z2]
end K49

namespace K49
open PySem L2 RI
def pr (x : Int × Int) : D := .tup [.int x.1, .int x.2]
theorem nice_pr : Nice pr := ⟨fun _ => rfl, fun _ => rfl, fun x => by simp [pr, D.toP, D.toPs, PyData.depth, PyData.depthAll]⟩
@[simp] theorem noObjs_pr (l : List (Int × Int)) : D.noObjs (l.map pr) = true := nice_pr.noL l
@[simp] theorem noObjs_prt (l : List (Int × Int)) : D.noObjs (l.map pr).tail = true := noObjs_tail (nice_pr.noL l)
def mk1 (p : Int) (l : List (Int × Int)) : List (Int × Int) := l.map fun x => if x.1 = p then (p, 1) else x
def rot : Nat → List (Int × Int) → List (Int × Int)
  | 0, l => l
  | _ + 1, [] => []
  | n + 1, x :: t => if x.2 = 1 then rot n (t ++ [(x.1, 0)]) else x :: t
def has (p : Int) (l : List (Int × Int)) : Bool := l.any fun x => decide (x.1 = p)
def step2 (fr : Nat) (row : List (Int × Int)) (p : Int) : List (Int × Int) × Bool :=
  if has p row then (mk1 p row, false) else ((if row.length = fr then (rot fr row).drop 1 else row) ++ [(p, 0)], true)
def marks (l : List (Int × Int)) : Nat := l.countP fun x => decide (x.2 = 1)
theorem rot_len : ∀ (n : Nat) (l : List (Int × Int)), (rot n l).length = l.length
  | 0, _ => rfl
  | _ + 1, [] => rfl
  | n + 1, x :: t => by
    simp only [rot]
    split
    · rw [rot_len n]; simp
    · rfl
theorem rot_fst : ∀ (n : Nat) (l : List (Int × Int)), ((rot n l).map (·.1)).Perm (l.map (·.1))
  | 0, _ => .refl _
  | _ + 1, [] => .refl _
  | n + 1, x :: t => by
    simp only [rot]
    split
    · refine (rot_fst n _).trans ?_
      simp only [List.map_append, List.map_cons, List.map_nil]
      exact List.perm_append_singleton _ _
    · exact .refl _
/-- the loop that takes marks off -/
theorem while_4 (F : FT) (a b c x y : Option D) (M : Mem) : ∀ (n : Nat) (l : List (Int × Int)) (N : Nat) (d : D), l ≠ [] → l.length ≤ 100 → marks l ≤ n → n < N → lstD M d = some (l.map pr) →
    ∃ d', lstD M d' = some ((rot n l).map pr) ∧ whileN wc_4_1 wb_4_1 F N [a, b, c, some d, x, y] M = .ok (.next [a, b, c, some d', x, y]) M := by
  intro n
  induction n with
  | zero =>
    intro l N d hne hl hm hN hd
    obtain ⟨z, t, rfl⟩ : ∃ z t, l = z :: t := by cases l with | nil => exact absurd rfl hne | cons z t => exact ⟨z, t, rfl⟩
    have hz : ¬ z.2 = 1 := by
      intro e
      simp [marks, List.countP_cons, e] at hm
    refine ⟨d, hd, ?_⟩
    obtain ⟨N, rfl⟩ : ∃ k, N = k + 1 := ⟨N - 1, by omega⟩
    have h0 : ixD d (.int 0) M = .ok (pr z) M := ix_get (seqD_of hd) (at_0 _ _)
    simp [whileN, wc_4_1, h0, pr, ix_tup1, hz]
  | succ n ih =>
    intro l N d hne hl hm hN hd
    obtain ⟨z, t, rfl⟩ : ∃ z t, l = z :: t := by cases l with | nil => exact absurd rfl hne | cons z t => exact ⟨z, t, rfl⟩
    obtain ⟨N, rfl⟩ : ∃ k, N = k + 1 := ⟨N - 1, by omega⟩
    have h0 : ixD d (.int 0) M = .ok (pr z) M := ix_get (seqD_of hd) (at_0 _ _)
    by_cases hz : z.2 = 1
    · have hl' : (t ++ [(z.1, (0 : Int))]).length ≤ 100 := by simp at hl ⊢; omega
      have hm' : marks (t ++ [(z.1, (0 : Int))]) ≤ n := by
        simp only [marks, List.countP_cons, hz] at hm
        simp [marks, List.countP_append] at hm ⊢
        omega
      obtain ⟨d', e1, e2⟩ := ih (t ++ [(z.1, 0)]) N (.lst ((t ++ [(z.1, 0)]).map pr)) (by simp) hl' hm' (by omega) rfl
      refine ⟨d', by simpa [rot, hz] using e1, ?_⟩
      rw [← e2]
      have hsl := sl_of hd (some 1) none
      have z1 : t.length + 1 ≤ 16777216 := by simp at hl; omega
      simp [whileN, wc_4_1, wb_4_1, h0, pr, ix_tup1, ix_tup0, hz, hsl, cut_1, LIM, add_lst, z1]
    · refine ⟨d, by simpa [rot, hz] using hd, ?_⟩
      simp [whileN, wc_4_1, h0, pr, ix_tup1, hz]
theorem marks_le (l : List (Int × Int)) : marks l ≤ l.length := List.countP_le_length
end K49

namespace K49
open PySem L2 RI
/-- the search of next_marked: nothing found -/
theorem find_none (F : FT) (a b : Option D) (c : D) (p : Int) (M : Mem) : ∀ (l : List (Int × Int)) (k : Nat) (x y : Option D), has p l = false →
    ∃ x' y', forG none fg_4_0 fb_4_0 F (enumD k (l.map pr)) [a, b, some (.int p), some c, x, y] M = .ok (.next [a, b, some (.int p), some c, x', y']) M
  | [], k, x, y, _ => ⟨x, y, rfl⟩
  | z :: l, k, x, y, h => by
    simp only [has, List.any_cons, Bool.or_eq_false_iff, decide_eq_false_iff_not] at h
    obtain ⟨x', y', ih⟩ := find_none F a b c p M l (k + 1) (some (.int k)) (some (pr z)) h.2
    refine ⟨x', y', ?_⟩
    rw [← ih]
    simp [forG, enumD, fg_4_0, fb_4_0, pr, ix_tup0, h.1]
theorem set_mk (p : Int) : ∀ (pre : List (Int × Int)) (z : Int × Int) (t : List (Int × Int)), z.1 = p → has p pre = false → has p t = false → (pre ++ z :: t).set pre.length (p, 1) = mk1 p (pre ++ z :: t) := by
  have no : ∀ l : List (Int × Int), has p l = false → mk1 p l = l := by
    intro l
    induction l with
    | nil => intro _; rfl
    | cons x l ih =>
      intro h
      simp only [has, List.any_cons, Bool.or_eq_false_iff, decide_eq_false_iff_not] at h
      have := ih h.2
      simp only [mk1, List.map_cons, h.1, if_false] at this ⊢
      rw [this]
  intro pre z t hz h1 h2
  have e1 := no pre h1
  have e2 := no t h2
  rw [List.set_append_right _ _ (Nat.le_refl _), Nat.sub_self, List.set_cons_zero]
  simp only [mk1, List.map_append, List.map_cons, hz, if_true] at e1 e2 ⊢
  rw [e1, e2]
theorem has_split (p : Int) : ∀ l : List (Int × Int), has p l = true → ∃ pre z t, l = pre ++ z :: t ∧ z.1 = p ∧ has p pre = false
  | [], h => by simp [has] at h
  | x :: l, h => by
    by_cases hx : x.1 = p
    · exact ⟨[], x, l, rfl, hx, rfl⟩
    · have : has p l = true := by simpa [has, hx] using h
      obtain ⟨pre, z, t, e, h1, h2⟩ := has_split p l this
      refine ⟨x :: pre, z, t, by rw [e]; rfl, h1, ?_⟩
      simp only [has, List.any_cons, hx, decide_false, Bool.false_or]
      exact h2
theorem has_iff (p : Int) (l : List (Int × Int)) : has p l = true ↔ p ∈ l.map (·.1) := by
  simp only [has, List.any_eq_true, decide_eq_true_eq, List.mem_map]
theorem nd_split {p : Int} {pre t : List (Int × Int)} {z : Int × Int} (nd : ((pre ++ z :: t).map (·.1)).Nodup) (hz : z.1 = p) : has p t = false := by
  cases e : has p t with
  | false => rfl
  | true =>
    have m := (has_iff p t).mp e
    simp only [List.map_append, List.map_cons, List.nodup_append, List.nodup_cons] at nd
    rw [← hz] at m
    exact absurd m nd.2.1.1
/-- the search: found behind pre -/
theorem find_some (F : FT) (a b : Option D) (p : Int) (M X : Mem) (L : List (Int × Int)) (t : List D) (z : Int × Int) (hz : z.1 = p) (hL : L.length ≤ 100) : ∀ (pre : List (Int × Int)) (k : Nat) (x y : Option D), has p pre = false → k + pre.length < L.length →
    forG none fg_4_0 fb_4_0 F (enumD k (pre.map pr ++ pr z :: t)) [a, b, some (.int p), some (.obj M.length), x, y] (M ++ .lst (L.map pr) :: X)
      = .ok (.ret (.tup [.tup ((L.set (k + pre.length) (p, 1)).map pr), .bl false])) (M ++ .lst ((L.set (k + pre.length) (p, 1)).map pr) :: X)
  | [], k, x, y, _, hk => by
    have hk' : k < L.length := by simpa using hk
    have hix : ixN (L.map pr).length (k : Int) = some k := by
      unfold ixN
      rw [if_pos (by omega), if_pos (by rw [List.length_map]; omega)]
      rfl
    have hset : setD (.obj M.length) (.int (k : Int)) (.tup [.int p, .int 1]) (M ++ .lst (L.map pr) :: X) = .ok () (M ++ .lst ((L.set k (p, 1)).map pr) :: X) := by
      rw [setD_S get_last]
      simp only [setS, get_last, hix, bel_pure _ (D.tup [.int p, .int 1]) rfl, if_true, set_last]
      congr 5
      rw [List.map_set]; rfl
    have htup : toTupD [.obj M.length] (M ++ .lst ((L.set k (p, 1)).map pr) :: X) = .ok (.tup ((L.set k (p, 1)).map pr)) (M ++ .lst ((L.set k (p, 1)).map pr) :: X) := tup_of lstD_last
    simp [forG, enumD, fg_4_0, fb_4_0, hz, hset, htup, LIM, show ∀ z : Int × Int, pr z = .tup [.int z.1, .int z.2] from fun _ => rfl, ix_tup0] at *
    simp [htup]
  | w :: pre, k, x, y, h, hk => by
    simp only [has, List.any_cons, Bool.or_eq_false_iff, decide_eq_false_iff_not] at h
    have ih := find_some F a b p M X L t z hz hL pre (k + 1) (some (.int k)) (some (pr w)) h.2 (by simp at hk; omega)
    have e : k + 1 + pre.length = k + (w :: pre).length := by simp; omega
    rw [e] at ih
    rw [← ih]
    simp [forG, enumD, fg_4_0, fb_4_0, pr, ix_tup0, h.1]
end K49

namespace K49
open PySem L2 RI
theorem next_marked (n : Nat) (fr : Nat) (h1 : 1 ≤ fr) (row : List (Int × Int)) (p : Int) (hl : row.length ≤ 100) (nd : (row.map (·.1)).Nodup) (M : Mem) :
    callF tb (n + 1) 4 [.int fr, .tup (row.map pr), .int p] M = .ok (.tup [.tup ((step2 fr row p).1.map pr), .bl (step2 fr row p).2]) M := by
  show retOf false M.length (b_4 (callF tb n) [some (.int fr), some (.tup (row.map pr)), some (.int p), none, none, none] M) = _
  have hlst := toLstM_of (M := M) (d := .tup (row.map pr)) (l := row.map pr) rfl (noObjs_pr row)
  cases hh : has p row with
  | true =>
    obtain ⟨pre, z, t, e, hz, hpre⟩ := has_split p row hh
    have ht : has p t = false := by rw [e] at nd; exact nd_split nd hz
    have hs := find_some (callF tb n) (some (.int fr)) (some (.tup (row.map pr))) p M [] row (t.map pr) z hz hl pre 0 none none hpre (by rw [e]; simp)
    have e2 : row.map pr = pre.map pr ++ pr z :: t.map pr := by rw [e]; simp
    rw [← e2] at hs
    have e3 : row.set (0 + pre.length) (p, 1) = mk1 p row := by
      rw [Nat.zero_add, e]; exact set_mk p pre z t hz hpre ht
    rw [e3] at hs
    simp [b_4, hlst, hs, step2, hh]
  | false =>
    obtain ⟨x', y', hs⟩ := find_none (callF tb n) (some (.int fr)) (some (.tup (row.map pr))) (.obj M.length) p (M ++ [.lst (row.map pr)]) row 0 none none hh
    have hlen := len_of (M := M ++ [.lst (row.map pr)]) (d := .obj M.length) (seqD_of lstD_last)
    have z1 : row.length + 1 ≤ 16777216 := by omega
    by_cases hf : row.length = fr
    · subst hf
      have hne : row ≠ [] := by intro e; rw [e] at h1; simp at h1
      obtain ⟨d', e1, e2⟩ := while_4 (callF tb n) (some (.int row.length)) (some (.tup (row.map pr))) (some (.int p)) x' y' (M ++ [.lst (row.map pr)]) row.length row FUEL (.obj M.length) hne hl (marks_le row) (by show row.length < 1000000000; omega) lstD_last
      have hsl := sl_of e1 (some 1) none
      have z2 : (rot row.length row).length - 1 + 1 ≤ 16777216 := by rw [rot_len]; omega
      simp [b_4, hlst, hs, step2, hh, hlen, e2, hsl, cut_1, LIM, add_lst, z2, tup_of]
      rfl
    · have hf' : ¬ (row.length : Int) = fr := by omega
      have hadd := add_of (M := M ++ [.lst (row.map pr)]) (d := .obj M.length) (e := .lst [.tup [.int p, .int 0]]) lstD_last rfl (by simp [LIM]; omega)
      simp [b_4, hlst, hs, step2, hh, hlen, hf, hf', LIM, hadd, tup_of, pr]
theorem eqS_S (M : Mem) : eqD false (.str wSecond) (.str [115, 101, 99, 111, 110, 100]) M = .ok (.bl true) M := by kernel_rfl
theorem prog_step2 (n : Nat) (fr : Nat) (h1 : 1 ≤ fr) (row : List (Int × Int)) (p : Int) (hl : row.length ≤ 100) (nd : (row.map (·.1)).Nodup) (M : Mem) :
    callF tb (n + 2) 5 [.str wSecond, .int fr, .tup (row.map pr), .int p] M = .ok (.tup [.tup ((step2 fr row p).1.map pr), .bl (step2 fr row p).2]) M := by
  show retOf false M.length (b_5 (callF tb (n + 1)) [some (.str wSecond), some (.int fr), some (.tup (row.map pr)), some (.int p), none] M) = _
  simp [b_5, eqS_S, next_marked n fr h1 row p hl nd]
/-! the law's own -/
theorem filter_has (p : Int) (l : List (Int × Int)) : (l.filter fun z => decide (z.1 = p)).isEmpty = !has p l := by
  induction l with
  | nil => rfl
  | cons x l ih =>
    by_cases h : x.1 = p
    · simp [has, h]
    · simp only [has, List.any_cons, h, decide_false, Bool.false_or] at ih ⊢
      rw [List.filter_cons_of_neg (by simp [h])]
      exact ih
end K49

namespace K49
open PySem L2 RI
/-- one rule: how the program and the law step alike -/
structure Sim (w : List Nat) (fr : Nat) where
  S : Type
  enc : S → List D
  nice : ∀ s, D.noObjs (enc s) = true
  sh : ∀ s, SeqAt.shaped (D.toP (.tup (enc s))) = true
  ky : ∀ s, D.keylys (enc s) = true
  dp : ∀ s, NestedKey.depthAll (D.toKs (enc s)) ≤ 1
  inj : ∀ s s', D.toKs (enc s) = D.toKs (enc s') → s = s'
  init : S
  e0 : enc init = []
  step : S → Int → S × Bool
  inv : S → Prop
  i0 : inv init
  is : ∀ s p, inv s → inv (step s p).1
  prog : ∀ n s p M, inv s → callF tb (n + 2) 5 [.str w, .int fr, .tup (enc s), .int p] M = .ok (.tup [.tup (enc (step s p).1), .bl (step s p).2]) M
theorem stepA_len (b : Bool) (fr : Nat) (h1 : 1 ≤ fr) (row : List Int) (p : Int) (h : row.length ≤ fr) : (stepA b fr row p).1.length ≤ fr := by
  unfold stepA
  by_cases hp : p ∈ row
  · rw [if_pos hp]
    cases b with
    | false => exact h
    | true =>
      have : (row.filter fun x => decide (x ≠ p)).length < row.length := by
        rw [List.length_filter_lt_length_iff_exists]
        exact ⟨p, hp, by simp⟩
      simp only [if_true, List.length_append, List.length_singleton]
      omega
  · rw [if_neg hp]
    by_cases hf : row.length = fr
    · simp [hf]; omega
    · simp [hf]; omega
theorem ky_ints : ∀ l : List Int, D.keylys (l.map D.int) = true
  | [] => rfl
  | x :: l => by simp only [List.map_cons, D.keylys, D.keyly, ky_ints l, Bool.and_self]
theorem dp_ints : ∀ l : List Int, NestedKey.depthAll (D.toKs (l.map D.int)) ≤ 1
  | [] => Nat.zero_le _
  | x :: l => by
    have := dp_ints l
    simp only [List.map_cons, D.toKs, D.toK, NestedKey.depthAll, NestedKey.depth]
    omega
theorem inj_ints : ∀ l l' : List Int, D.toKs (l.map D.int) = D.toKs (l'.map D.int) → l = l'
  | [], [], _ => rfl
  | [], _ :: _, h => by simp [D.toKs] at h
  | _ :: _, [], h => by simp [D.toKs] at h
  | x :: l, y :: l', h => by
    simp only [List.map_cons, D.toKs, D.toK, List.cons.injEq, NestedKey.num.injEq] at h
    rw [h.1, inj_ints l l' h.2]
theorem ky_prs : ∀ l : List (Int × Int), D.keylys (l.map pr) = true
  | [] => rfl
  | x :: l => by
    simp only [List.map_cons, D.keylys, ky_prs l, Bool.and_true]
    rfl
theorem dp_prs : ∀ l : List (Int × Int), NestedKey.depthAll (D.toKs (l.map pr)) ≤ 1
  | [] => Nat.zero_le _
  | x :: l => by
    have := dp_prs l
    simp only [List.map_cons, D.toKs, NestedKey.depthAll]
    have h : NestedKey.depth (D.toK (pr x)) = 1 := rfl
    omega
theorem inj_prs : ∀ l l' : List (Int × Int), D.toKs (l.map pr) = D.toKs (l'.map pr) → l = l'
  | [], [], _ => rfl
  | [], _ :: _, h => by simp [D.toKs] at h
  | _ :: _, [], h => by simp [D.toKs] at h
  | (x1, x2) :: l, (y1, y2) :: l', h => by
    simp only [List.map_cons, D.toKs, pr, D.toK, List.cons.injEq, NestedKey.tup.injEq, NestedKey.num.injEq] at h
    rw [h.1.1, h.1.2.1, inj_prs l l' h.2]
def simA (b : Bool) (fr : Nat) (h1 : 1 ≤ fr) (h4 : fr ≤ 4) : Sim (wA b) fr where
  S := List Int
  enc := fun l => l.map D.int
  nice := fun l => noObjs_ints l
  sh := fun l => nice_int.shT l
  ky := ky_ints
  dp := dp_ints
  inj := inj_ints
  init := []
  e0 := rfl
  step := stepA b fr
  inv := fun l => l.length ≤ fr
  i0 := Nat.zero_le _
  is := fun l p h => stepA_len b fr h1 l p h
  prog := fun n l p M h => prog_stepA (n + 1) b fr l p (by omega) M
theorem mk1_fst (p : Int) (l : List (Int × Int)) : (mk1 p l).map (·.1) = l.map (·.1) := by
  unfold mk1
  rw [List.map_map]
  apply List.map_congr_left
  intro x _
  simp only [Function.comp]
  by_cases h : x.1 = p <;> simp [h]
theorem step2_inv (fr : Nat) (h1 : 1 ≤ fr) (row : List (Int × Int)) (p : Int) (h : row.length ≤ fr ∧ (row.map (·.1)).Nodup) : (step2 fr row p).1.length ≤ fr ∧ ((step2 fr row p).1.map (·.1)).Nodup := by
  unfold step2
  cases hh : has p row with
  | true =>
    simp only [if_true]
    exact ⟨by simp [mk1]; exact h.1, by rw [mk1_fst]; exact h.2⟩
  | false =>
    have hp : p ∉ row.map (·.1) := fun m => by rw [(has_iff p row).mpr m] at hh; cases hh
    simp only [Bool.false_eq_true, if_false]
    by_cases hf : row.length = fr
    · rw [if_pos hf]
      have hpm := rot_fst fr row
      have nd := hpm.nodup_iff.mpr h.2
      have hp' : p ∉ (rot fr row).map (·.1) := fun m => hp (hpm.mem_iff.mp m)
      refine ⟨by simp [rot_len]; omega, ?_⟩
      rw [List.map_append, List.map_drop, List.nodup_append]
      refine ⟨nd.sublist (List.drop_sublist _ _), by simp, ?_⟩
      intro a ha b hb e
      simp at hb
      subst hb; subst e
      exact hp' (List.mem_of_mem_drop ha)
    · rw [if_neg hf]
      refine ⟨by simp; omega, ?_⟩
      rw [List.map_append, List.nodup_append]
      refine ⟨h.2, by simp, ?_⟩
      intro a ha b hb e
      simp at hb
      subst hb; subst e
      exact hp ha
def simS (fr : Nat) (h1 : 1 ≤ fr) (h4 : fr ≤ 4) : Sim wSecond fr where
  S := List (Int × Int)
  enc := fun l => l.map pr
  nice := fun l => noObjs_pr l
  sh := fun l => nice_pr.shT l
  ky := ky_prs
  dp := dp_prs
  inj := inj_prs
  init := []
  e0 := rfl
  step := step2 fr
  inv := fun l => l.length ≤ fr ∧ (l.map (·.1)).Nodup
  i0 := ⟨Nat.zero_le _, List.nodup_nil⟩
  is := fun l p h => step2_inv fr h1 l p h
  prog := fun n l p M h => prog_step2 n fr h1 l p (by omega) h.2 M
/-- the whole run: indexes of faults, the state -/
def runM {w : List Nat} {fr : Nat} (X : Sim w fr) : List Int → Nat → X.S → List Int → List Int × X.S
  | [], _, s, found => (found, s)
  | u :: us, k, s, found => runM X us (k + 1) (X.step s u).1 (if (X.step s u).2 then found ++ [(k : Int)] else found)
theorem runM_inv {w : List Nat} {fr : Nat} (X : Sim w fr) : ∀ (us : List Int) (k : Nat) (s : X.S) (found : List Int), X.inv s → X.inv (runM X us k s found).2
  | [], _, s, _, h => h
  | u :: us, k, s, found, h => runM_inv X us (k + 1) _ _ (X.is s u h)
theorem loop_6 {w : List Nat} {fr : Nat} (X : Sim w fr) (n : Nat) (a b c : Option D) (M : Mem) : ∀ (us : List Int) (k : Nat) (s : X.S) (found : List Int) (x y z : Option D), X.inv s → found.length + us.length ≤ 1000 →
    a = some (.str w) → b = some (.int fr) →
    ∃ x' y' z', forG none fg_6_0 fb_6_0 (callF tb (n + 2)) (enumD k (us.map D.int)) [a, b, c, some (.tup (X.enc s)), some (.obj M.length), x, y, z] (M ++ [.lst (found.map D.int)])
      = .ok (.next [a, b, c, some (.tup (X.enc (runM X us k s found).2)), some (.obj M.length), x', y', z']) (M ++ [.lst ((runM X us k s found).1.map D.int)])
  | [], k, s, found, x, y, z, _, _, _, _ => ⟨x, y, z, rfl⟩
  | u :: us, k, s, found, x, y, z, hi, hl, ha, hb => by
    subst ha hb
    have hl' : found.length < 1000 := by simp at hl; omega
    have hp := X.prog n s u (M ++ [.lst (found.map D.int)]) hi
    have happ := app_last (M := M) (X := []) (l := found.map D.int) (v := .int (k : Nat)) (by rw [List.length_map]; show found.length < 16777216; omega) rfl
    cases hf : (X.step s u).2 with
    | true =>
      rw [hf] at hp
      obtain ⟨x', y', z', ih⟩ := loop_6 X n (some (.str w)) (some (.int fr)) c M us (k + 1) (X.step s u).1 (found ++ [(k : Int)]) (some (.int k)) (some (.int u)) (some (.bl true)) (X.is s u hi) (by simp at hl ⊢; omega) rfl rfl
      refine ⟨x', y', z', ?_⟩
      simp only [runM, hf, if_true]
      rw [← ih]
      simp [forG, enumD, fg_6_0, fb_6_0, hp, truD, happ]
    | false =>
      rw [hf] at hp
      obtain ⟨x', y', z', ih⟩ := loop_6 X n (some (.str w)) (some (.int fr)) c M us (k + 1) (X.step s u).1 found (some (.int k)) (some (.int u)) (some (.bl false)) (X.is s u hi) (by simp at hl ⊢; omega) rfl rfl
      refine ⟨x', y', z', ?_⟩
      simp only [runM, hf, Bool.false_eq_true, if_false]
      rw [← ih]
      simp [forG, enumD, fg_6_0, fb_6_0, hp, truD]
end K49

namespace K49
open PySem L2 RI
variable {w : List Nat} {fr : Nat}
/-- what is handed back: a pair of a list made here and data -/
theorem fin_pair {M : Mem} {l : List Int} {d : D} (hd : D.noObj d = true) : fin false M.length (.tup [.obj M.length, d]) (M ++ [.lst (l.map D.int)]) = .ok (.tup [.lst (l.map D.int), d]) M := by
  have e : D.frz (frzM (M ++ [.lst (l.map D.int)]) M.length 3) (.tup [.obj M.length, d]) = .tup [.lst (l.map D.int), d] := by
    simp only [D.frz, D.frzs, frz_last (M := M) (X := []) (noObjs_ints l), frz_pure _ d hd]
  have b : D.bel M.length (.tup [.lst (l.map D.int), d]) = true := bel_pure _ _ (by simp [hd])
  simp only [fin, Bool.false_eq_true, if_false, e, b, if_true, List.take_left]
theorem fin_pairL {M : Mem} {l : List Int} {d : D} (hd : D.noObj d = true) : fin false M.length (.lst [.obj M.length, d]) (M ++ [.lst (l.map D.int)]) = .ok (.lst [.lst (l.map D.int), d]) M := by
  have e : D.frz (frzM (M ++ [.lst (l.map D.int)]) M.length 3) (.lst [.obj M.length, d]) = .lst [.lst (l.map D.int), d] := by
    simp only [D.frz, D.frzs, frz_last (M := M) (X := []) (noObjs_ints l), frz_pure _ d hd]
  have b : D.bel M.length (.lst [.lst (l.map D.int), d]) = true := bel_pure _ _ (by simp [hd])
  simp only [fin, Bool.false_eq_true, if_false, e, b, if_true, List.take_left]
abbrev Sim.res (X : Sim w fr) (us : List Int) : List Int × X.S := runM X us 0 X.init []
theorem run_of (X : Sim w fr) (n : Nat) (us : List Int) (hl : us.length ≤ 200) (M : Mem) :
    callF tb (n + 3) 6 [.str w, .int fr, .tup (us.map D.int)] M = .ok (.tup [.lst ((X.res us).1.map D.int), .tup (X.enc (X.res us).2)]) M := by
  show retOf false M.length (b_6 (callF tb (n + 2)) [some (.str w), some (.int fr), some (.tup (us.map D.int)), none, none, none, none, none] M) = _
  obtain ⟨x', y', z', e⟩ := loop_6 X n (some (.str w)) (some (.int fr)) (some (.tup (us.map D.int))) M us 0 X.init [] none none none X.i0 (by simp; omega) rfl rfl
  rw [X.e0] at e
  simp only [List.map_nil] at e
  have hn := newO_pure (l := []) rfl M
  simp [b_6, hn, e, LIM]
  exact fin_pair (X.nice _)
theorem faults (X : Sim w fr) (hw : IsRule w) (h1 : 1 ≤ fr) (h4 : fr ≤ 4) (n : Nat) (us : List Int) (h : ∀ u ∈ us, 0 ≤ u ∧ u ≤ 4) (hl : us.length ≤ 200) (M : Mem) :
    callF tb (n + 4) 8 [.str w, .int fr, .tup (us.map D.int)] M = .ok (.lst ((X.res us).1.map D.int)) M := by
  show retOf false M.length (b_8 (callF tb (n + 3)) [some (.str w), some (.int fr), some (.tup (us.map D.int))] M) = _
  have hq := check_question n w hw fr (by omega) (by omega) us h hl M
  have hr := run_of X n us hl M
  simp [b_8, hq, hr, ix_tup0]
theorem rng_cons (k n : Nat) : (List.range' k (n + 1)).map (fun i => D.int ((0 : Int) + (i : Nat))) = .int (k : Nat) :: (List.range' (k + 1) n).map (fun i => D.int ((0 : Int) + (i : Nat))) := by
  simp [List.range'_succ]
theorem rng_eq (n : Nat) : rngD 0 n = (List.range' 0 n).map (fun i => D.int ((0 : Int) + (i : Nat))) := by
  simp [rngD, List.range_eq_range']
end K49

namespace K49
open PySem L2 RI
theorem mix (n : Nat) (ns : List Int) (seed : Int) (h : ns.length ≤ 63) : ∃ M, Hm M [] ∧ callF tb (n + 1) 15 [.lst (ns.map .int), .int seed] [] = .ok (.obj 1) M := mix_ok (callF tb n) ns seed h
theorem next (n : Nat) (b : Int) (h1 : 1 ≤ b) (h2 : b < 1073741824) (M X : Mem) (h : Hm M X) : ∃ r M', 0 ≤ r ∧ r < b ∧ Hm M' X ∧ callF tb (n + 1) 16 [.obj 1, .int b] M = .ok (.int r) M' := next_ok (callF tb n) b h1 h2 M X h
theorem hm_len {M M' X Y : Mem} (h : Hm M X) (h' : Hm M' Y) (e : X.length = Y.length) : M.length = M'.length := by
  obtain ⟨c, s, i, _, rfl⟩ := h
  obtain ⟨c', s', i', _, rfl⟩ := h'
  simp [memS, e]
theorem hm_at {M X : Mem} (h : Hm M X) (k : Nat) : M[k + 2]? = X[k]? := by
  obtain ⟨c, s, i, _, rfl⟩ := h
  rfl
theorem hm_app {M : Mem} {l : List D} {v : D} {X : Mem} (h : Hm M (.lst l :: X)) (hz : l.length < LIM) (hv : D.noObj v = true) : ∃ M', Hm M' (.lst (l ++ [v]) :: X) ∧ appD (.obj 2) v M = .ok .non M' := by
  obtain ⟨c, s, i, hc, rfl⟩ := h
  refine ⟨_, ⟨c, s, i, hc, rfl⟩, ?_⟩
  simp only [appD, memS, List.getElem?_cons_succ, List.getElem?_cons_zero, hz, bel_pure _ v hv, and_self, if_true]
  rfl
theorem eq_nilO {A : Type} {f : A → D} (hn : Nice f) (n : Bool) (l : List A) (j : Nat) (M : Mem) (h : M[j]? = some (.lst (l.map f))) : eqD n (.obj j) (.lst []) M = .ok (.bl (if n then !l.isEmpty else l.isEmpty)) M := by
  have e : derefD M (.obj j) = .lst (l.map f) := by simp [derefD, h]
  have := eq_nil hn n l M
  unfold eqD at this ⊢
  rw [e]
  exact this
/-- the pages drawn -/
theorem uses_it (n : Nat) (many most : Int) (h1 : 1 ≤ many) (h5 : many ≤ 5) : ∀ (c : List D) (us : List Int) (x y : Option D) (M : Mem), Hm M [.lst (us.map .int)] → (∀ u ∈ us, 0 ≤ u ∧ u < many) → us.length + c.length ≤ 1000 →
    ∃ (us' : List Int) (x' y' : Option D) (M' : Mem), Hm M' [.lst (us'.map .int)] ∧ (∀ u ∈ us', 0 ≤ u ∧ u < many) ∧ us'.length = us.length + c.length ∧
      forG none fg_17_0 fb_17_0 (callF tb (n + 1)) c [some (.obj 1), some (.int many), some (.int most), some (.obj 2), x, y] M = .ok (.next [some (.obj 1), some (.int many), some (.int most), some (.obj 2), x', y']) M'
  | [], us, x, y, M, hm, hu, hl => ⟨us, x, y, M, hm, hu, rfl, rfl⟩
  | d :: c, us, x, y, M, hm, hu, hl => by
    obtain ⟨p, M1, p0, p1, hm1, e1⟩ := next n many h1 (by omega) M _ hm
    have fin : ∀ (q : Int) (M2 : Mem), 0 ≤ q → q < many → Hm M2 [.lst (us.map .int)] → ∃ (us' : List Int) (x' y' : Option D) (M' : Mem), Hm M' [.lst (us'.map .int)] ∧ (∀ u ∈ us', 0 ≤ u ∧ u < many) ∧ us'.length = us.length + (d :: c).length ∧
        ∃ M3, appD (.obj 2) (.int q) M2 = .ok .non M3 ∧ forG none fg_17_0 fb_17_0 (callF tb (n + 1)) c [some (.obj 1), some (.int many), some (.int most), some (.obj 2), some d, some (.int q)] M3 = .ok (.next [some (.obj 1), some (.int many), some (.int most), some (.obj 2), x', y']) M' := by
      intro q M2 q0 q4 hm2
      obtain ⟨M3, hm3, e3⟩ := hm_app hm2 (v := .int q) (by rw [List.length_map]; show us.length < 16777216; simp at hl; omega) rfl
      obtain ⟨us', x', y', M', a1, a2, a3, a4⟩ := uses_it n many most h1 h5 c (us ++ [q]) (some d) (some (.int q)) M3 (by simpa using hm3) (by
        intro u hu'
        rcases List.mem_append.mp hu' with h | h
        · exact hu u h
        · simp at h; subst h; exact ⟨q0, q4⟩) (by simp at hl ⊢; omega)
      exact ⟨us', x', y', M', a1, a2, by simp at a3 ⊢; omega, M3, e3, a4⟩
    have ht : ∀ {M2 : Mem}, Hm M2 [.lst (us.map .int)] → M2[2]? = some (.lst (us.map .int)) := fun h => hm_at h 0
    cases us with
    | nil =>
      have en := eq_nilO nice_int true ([] : List Int) 2 M1 (hm_at hm1 0)
      obtain ⟨us', x', y', M', a1, a2, a3, M3, e3, a4⟩ := fin p M1 p0 (by omega) hm1
      refine ⟨us', x', y', M', a1, a2, a3, ?_⟩
      rw [← a4]
      simp at en
      simp [forG, fg_17_0, fb_17_0, e1, en, ht hm1, e3]
    | cons u us0 =>
      have en := eq_nilO nice_int true (u :: us0) 2 M1 (hm_at hm1 0)
      obtain ⟨t, M2, t0, t1, hm2, e2⟩ := next n 3 (by omega) (by omega) M1 _ hm1
      by_cases hz : t = 0
      · subst hz
        have hlen : lenD [.obj 2] M2 = .ok (.int ((u :: us0).length : Nat)) M2 := by
          rw [len_of (l := (u :: us0).map .int) (by simp only [seqD, hm_at hm2 0, List.getElem?_cons_zero])]; simp
        obtain ⟨k, M3, k0, k1, hm3, e3⟩ := next n ((u :: us0).length : Nat) (by simp; omega) (by simp at hl ⊢; omega) M2 _ hm2
        have hk : k.toNat < (u :: us0).length := by omega
        have hix : ixD (.obj 2) (.int k) M3 = .ok (.int ((u :: us0)[k.toNat])) M3 := ix_get (l := (u :: us0).map .int) (by simp only [seqD, hm_at hm3 0, List.getElem?_cons_zero]) (by
          rw [at_nat k0 (by simpa using k1), List.getElem_map])
        have hb := hu _ (List.getElem_mem hk)
        generalize (u :: us0)[k.toNat] = q at hix hb
        obtain ⟨us', x', y', M', a1, a2, a3, M4, e4, a4⟩ := fin q M3 hb.1 hb.2 hm3
        refine ⟨us', x', y', M', a1, a2, a3, ?_⟩
        rw [← a4]
        simp only [if_true, List.isEmpty_cons, Bool.not_false] at en
        simp only [List.length_cons] at e3 hlen
        simp [forG, fg_17_0, fb_17_0, e1, en, e2, hlen] at e3 ⊢
        simp [e3, hix, ht hm3, e4]
      · obtain ⟨us', x', y', M', a1, a2, a3, M3, e3, a4⟩ := fin p M2 p0 (by omega) hm2
        refine ⟨us', x', y', M', a1, a2, a3, ?_⟩
        rw [← a4]
        simp only [if_true, List.isEmpty_cons, Bool.not_false] at en
        simp [forG, fg_17_0, fb_17_0, e1, en, e2, hz, ht hm2, e3]
theorem uses (n : Nat) (many most : Int) (h1 : 1 ≤ many) (h5 : many ≤ 5) (h0 : 0 ≤ most) (hm : most ≤ 200) (M : Mem) (hM : Hm M []) : ∃ (us : List Int) (M' : Mem), Hm M' [] ∧ (∀ u ∈ us, 0 ≤ u ∧ u < many) ∧ (us.length : Int) ≤ most ∧
    callF tb (n + 2) 17 [.obj 1, .int many, .int most] M = .ok (.tup (us.map .int)) M' := by
  have hM1 : Hm (M ++ [.lst []]) [.lst (([] : List Int).map .int)] := by
    obtain ⟨c, s, i, hc, rfl⟩ := hM
    exact ⟨c, s, i, hc, rfl⟩
  have hl : M.length = 2 := by
    obtain ⟨c, s, i, hc, rfl⟩ := hM
    rfl
  have hn := newO_pure (l := []) rfl M
  obtain ⟨k, M2, k0, k1, hM2, e2⟩ := next n (most + 1) (by omega) (by omega) _ _ hM1
  obtain ⟨us, x', y', M3, hM3, hu, hlu, e3⟩ := uses_it n many most h1 h5 (rngD 0 k.toNat) [] none none M2 hM2 (by simp) (by simp [rngD]; omega)
  have hr : rngOk k = true := rngOk_of (by omega) (by omega)
  simp [rngD] at hlu
  obtain ⟨c, s, i, hc, rfl⟩ := hM3
  refine ⟨us, memS c s i [], ⟨c, s, i, hc, rfl⟩, hu, by omega, ?_⟩
  have ht : toTupD [.obj 2] (memS c s i [.lst (us.map .int)]) = .ok (.tup (us.map .int)) (memS c s i [.lst (us.map .int)]) := tup_of rfl
  have hfin : fin false M.length (.tup (us.map .int)) (memS c s i [.lst (us.map .int)]) = .ok (.tup (us.map .int)) (memS c s i []) := by
    rw [show M.length = (memS c s i []).length by rw [hl]; rfl]
    exact fin_pure (by simp) rfl
  rw [u_17]
  simp [b_17, hn, hl, LIM, e2, hr, e3, ht]
  rw [hl] at hfin
  exact hfin
end K49

namespace K49
open PySem L2 RI
/-! the rules are ways of choosing -/
theorem drop1_perm {l : List Int} (h : l ≠ []) : ∃ c, l.Perm (c :: l.drop 1) := by
  cases l with
  | nil => exact absurd rfl h
  | cons c r => exact ⟨c, List.Perm.refl _⟩
theorem moved_perm {l : List Int} {p : Int} (nd : l.Nodup) (hp : p ∈ l) : (l.filter (fun x => decide (x ≠ p)) ++ [p]).Perm l := by
  have h1 := List.perm_cons_erase hp
  have h2 : l.erase p = l.filter (fun x => decide (x ≠ p)) := by
    rw [nd.erase_eq_filter]
    congr 1
    funext x
    simp [bne, BEq.beq]
  rw [← h2]
  exact (PG.snoc _ _).trans h1.symm
theorem runA (b : Bool) (fr : Nat) (h1 : 1 ≤ fr) (h4 : fr ≤ 4) : ∀ (us : List Int) (k : Nat) (s found : List Int), s.length ≤ fr → s.Nodup → ∃ e m, PG.Run fr s us e m ∧ (runM (simA b fr h1 h4) us k s found).1.length = found.length + m
  | [], k, s, found, _, _ => ⟨s, 0, .nil (List.Perm.refl _), rfl⟩
  | u :: us, k, s, found, hl, nd => by
    show ∃ e m, PG.Run fr s (u :: us) e m ∧ (runM (simA b fr h1 h4) us (k + 1) (stepA b fr s u).1 (if (stepA b fr s u).2 then found ++ [(k : Int)] else found)).1.length = found.length + m
    by_cases hu : u ∈ s
    · have e1 : (stepA b fr s u).2 = false := by simp [stepA, hu]
      have e2 : (stepA b fr s u).1.Perm s := by
        cases b with
        | false => simp [stepA, hu]
        | true =>
          have := moved_perm nd hu
          simpa [stepA, hu] using this
      obtain ⟨e, m, r, q⟩ := runA b fr h1 h4 us (k + 1) (stepA b fr s u).1 found (by rw [e2.length_eq]; exact hl) (e2.nodup_iff.mpr nd)
      rw [e1]
      exact ⟨e, m, .hit hu (r.perm e2), q⟩
    · have e1 : (stepA b fr s u).2 = true := by simp [stepA, hu]
      rw [e1]
      by_cases hf : s.length = fr
      · have e2 : (stepA b fr s u).1 = s.drop 1 ++ [u] := by simp [stepA, hu, hf]
        obtain ⟨c, hc⟩ := drop1_perm (l := s) (by intro e; subst e; simp at hf; omega)
        have nd2 := hc.nodup_iff.mp nd
        obtain ⟨e, m, r, q⟩ := runA b fr h1 h4 us (k + 1) (stepA b fr s u).1 (found ++ [(k : Int)]) (by rw [e2]; simp; omega) (by
          rw [e2, (PG.snoc _ _).nodup_iff, List.nodup_cons]
          exact ⟨fun z => hu (List.mem_of_mem_drop z), (List.nodup_cons.mp nd2).2⟩)
        refine ⟨e, m + 1, .out hu hf hc (r.perm (by rw [e2]; exact PG.snoc _ _)), ?_⟩
        simp only [if_true, q, List.length_append, List.length_cons, List.length_nil]
        omega
      · have e2 : (stepA b fr s u).1 = s ++ [u] := by simp [stepA, hu, hf]
        obtain ⟨e, m, r, q⟩ := runA b fr h1 h4 us (k + 1) (stepA b fr s u).1 (found ++ [(k : Int)]) (by rw [e2]; simp; omega) (by
          rw [e2, (PG.snoc _ _).nodup_iff, List.nodup_cons]
          exact ⟨hu, nd⟩)
        refine ⟨e, m + 1, .add hu (by omega) (r.perm (by rw [e2]; exact PG.snoc _ _)), ?_⟩
        simp only [if_true, q, List.length_append, List.length_cons, List.length_nil]
        omega
theorem runS (fr : Nat) (h1 : 1 ≤ fr) (h4 : fr ≤ 4) : ∀ (us : List Int) (k : Nat) (s : List (Int × Int)) (found : List Int), s.length ≤ fr → (s.map (·.1)).Nodup → ∃ e m, PG.Run fr (s.map (·.1)) us e m ∧ (runM (simS fr h1 h4) us k s found).1.length = found.length + m
  | [], k, s, found, _, _ => ⟨s.map (·.1), 0, .nil (List.Perm.refl _), rfl⟩
  | u :: us, k, s, found, hl, nd => by
    show ∃ e m, PG.Run fr (s.map (·.1)) (u :: us) e m ∧ (runM (simS fr h1 h4) us (k + 1) (step2 fr s u).1 (if (step2 fr s u).2 then found ++ [(k : Int)] else found)).1.length = found.length + m
    have inv := step2_inv fr h1 s u ⟨hl, nd⟩
    by_cases hu : has u s = true
    · have e1 : (step2 fr s u).2 = false := by simp [step2, hu]
      have e2 : (step2 fr s u).1.map (·.1) = s.map (·.1) := by simp [step2, hu, mk1_fst]
      obtain ⟨e, m, r, q⟩ := runS fr h1 h4 us (k + 1) (step2 fr s u).1 found inv.1 inv.2
      rw [e1]
      rw [e2] at r
      exact ⟨e, m, .hit ((has_iff u s).mp hu) r, q⟩
    · have hu' : u ∉ s.map (·.1) := fun z => hu ((has_iff u s).mpr z)
      have e1 : (step2 fr s u).2 = true := by simp [step2, hu]
      obtain ⟨e, m, r, q⟩ := runS fr h1 h4 us (k + 1) (step2 fr s u).1 (found ++ [(k : Int)]) inv.1 inv.2
      rw [e1]
      by_cases hf : s.length = fr
      · have e2 : (step2 fr s u).1 = (rot s.length s).drop 1 ++ [(u, 0)] := by simp [step2, hu, hf]
        have hp := rot_fst s.length s
        obtain ⟨c, hc⟩ := drop1_perm (l := (rot s.length s).map (·.1)) (by
          intro z
          have := congrArg List.length z
          rw [List.length_map, rot_len, List.length_nil] at this
          omega)
        rw [e2, List.map_append, List.map_drop] at r
        refine ⟨e, m + 1, .out hu' (by rw [List.length_map]; exact hf) (hp.symm.trans hc) (r.perm (PG.snoc _ _)), ?_⟩
        simp only [if_true, q, List.length_append, List.length_cons, List.length_nil]
        omega
      · have e2 : (step2 fr s u).1 = s ++ [(u, 0)] := by simp [step2, hu, hf]
        rw [e2, List.map_append] at r
        refine ⟨e, m + 1, .add hu' (by rw [List.length_map]; omega) (r.perm (PG.snoc _ _)), ?_⟩
        simp only [if_true, q, List.length_append, List.length_cons, List.length_nil]
        omega
end K49

namespace K49
open PySem L2 RI
/-! a choice -/
inductive Smp : D → Prop
  | non : Smp .non
  | bl (b : Bool) : Smp (.bl b)
  | int (i : Int) : Smp (.int i)
  | str : Smp (.str [48])
def chA (fr : Nat) (row : List Int) (p : Int) (c : D) : Option (List Int) :=
  if p ∈ row ∨ row.length < fr then (match c with | .non => some (if p ∈ row then row else row ++ [p]) | _ => none)
  else match c with
    | .int i => if i ∈ row then some (row.filter (fun x => decide (x ≠ i)) ++ [p]) else none
    | _ => none
theorem is_from_no (n : Nat) {c : D} (h : Smp c) (hi : ∀ i, c ≠ .int i) (lo hi : Int) (M : Mem) : callF tb (n + 1) 0 [c, .int lo, .int hi] M = .ok (.bl false) M := by
  cases h with
  | int i => exact absurd rfl (hi i)
  | _ =>
    rw [u_0]
    simp [b_0, D.ty, isiB]
theorem lc_9 (F : FT) (a b c : Option D) (p : Int) : ∀ (l : List Int) (M : Mem), lcG none lg_9_0 lt_9_0 le_9_0 F [a, b, c, some (.int p), none] (l.map D.int) M = .ok ((l.filter (fun x => decide (x ≠ p))).map D.int) M := by
  intro l M
  refine lc_ok rfl (fun x => decide (x ≠ p)) D.int l fun x _ => ⟨_, rfl, ?_, fun _ => rfl⟩
  simp [lt_9_0]
def encO : Option (List Int) → D
  | some l => .tup (l.map D.int)
  | none => .non
theorem choice_after (n fr : Nat) (row : List Int) (p : Int) (c : D) (hc : Smp c) (hr : ∀ x ∈ row, 0 ≤ x ∧ x ≤ 4) (hl : row.length ≤ 100) (M : Mem) : callF tb (n + 2) 9 [.int fr, .tup (row.map D.int), .int p, c] M = .ok (encO (chA fr row p c)) M := by
  rw [u_9]
  have hin := fun M => in_ints false p row M (d := .tup (row.map D.int)) rfl
  have hlen := fun M => len_of (M := M) (d := .tup (row.map D.int)) rfl
  have z2 : row.length + 1 ≤ 16777216 := by omega
  by_cases h : p ∈ row ∨ row.length < fr
  · have hcond : (p ∈ row) ∨ (row.length : Int) < fr := by
      rcases h with h | h
      · exact .inl h
      · exact .inr (by omega)
    cases hc with
    | non =>
      by_cases hp : p ∈ row
      · simp [b_9, hin, hp, hlen, chA, encO, isD, D.isNon]
      · have h2 : (row.length : Int) < fr := by rcases hcond with q | q; exact absurd q hp; exact q
        have h3 : row.length < fr := by omega
        simp [b_9, hin, hp, hlen, h2, h3, chA, encO, isD, D.isNon, LIM, add_tup, z2]
    | _ =>
      by_cases hp : p ∈ row
      · simp [b_9, hin, hp, hlen, chA, encO, isD, D.isNon]
      · have h2 : (row.length : Int) < fr := by rcases hcond with q | q; exact absurd q hp; exact q
        have h3 : row.length < fr := by omega
        simp [b_9, hin, hp, hlen, h2, h3, chA, encO, isD, D.isNon]
  · have hp : p ∉ row := fun q => h (.inl q)
    have h2 : ¬ (row.length : Int) < fr := fun q => h (.inr (by omega))
    have h3 : ¬ row.length < fr := fun q => h (.inr q)
    cases hc with
    | int i =>
      have hin2 := fun M => in_ints true i row M (d := .tup (row.map D.int)) rfl
      by_cases hi : i ∈ row
      · obtain ⟨q1, q2⟩ := hr i hi
        have hf : (row.filter fun x => decide (x ≠ i)).length ≤ row.length := List.length_filter_le _ _
        have z1 : (row.filter fun x => !decide (x = i)).length + 1 ≤ 16777216 := by simp at hf; omega
        have z3 : row.length ≤ 16777216 := by omega
        have hfr := is_from n i 0 4 M
        simp only [q1, q2, decide_true, Bool.and_self] at hfr
        have htt : ∀ l : List Int, toTupD [.lst (l.map D.int)] M = .ok (.tup (l.map D.int)) M := fun l => tup_of rfl
        have hlc := lc_9 (callF tb (n + 1)) (some (.int fr)) (some (.tup (row.map D.int))) (some (.int p)) i row M
        simp [b_9, hin, hin2, hp, hlen, h2, h3, chA, encO, hi, hfr, truD, wipeE, hlc, LIM, z3, htt, add_tup, z1]
      · have hcall := is_from n i 0 4 M
        cases hk : (decide ((0 : Int) ≤ i) && decide (i ≤ 4)) with
        | false =>
          rw [hk] at hcall
          simp [b_9, hin, hp, hlen, h2, h3, chA, encO, hi, hcall, truD]
        | true =>
          rw [hk] at hcall
          simp [b_9, hin, hin2, hp, hlen, h2, h3, chA, encO, hi, hcall, truD]
    | non =>
      have := is_from_no n .non (by intro i; simp) 0 4 M
      simp [b_9, hin, hp, hlen, h2, h3, chA, encO, this, truD]
    | bl b =>
      have := is_from_no n (.bl b) (by intro i; simp) 0 4 M
      simp [b_9, hin, hp, hlen, h2, h3, chA, encO, this, truD]
    | str =>
      have := is_from_no n .str (by intro i; simp) 0 4 M
      simp [b_9, hin, hp, hlen, h2, h3, chA, encO, this, truD]
/-! a row of choices, counted -/
def cnt (fr : Nat) : List (Int × D) → List Int → Nat → Option Nat
  | [], _, n => some n
  | (p, c) :: r, row, n => match chA fr row p c with
    | some row' => cnt fr r row' (if p ∈ row then n else n + 1)
    | none => none
def encN : Option Nat → D
  | some n => .int n
  | none => .non
theorem chA_ok {fr : Nat} {row row' : List Int} {p : Int} {c : D} (h : chA fr row p c = some row') (hl : row.length ≤ fr) (hr : ∀ x ∈ row, 0 ≤ x ∧ x ≤ 4) (hp : 0 ≤ p ∧ p ≤ 4) : row'.length ≤ fr ∧ ∀ x ∈ row', 0 ≤ x ∧ x ≤ 4 := by
  unfold chA at h
  split at h
  · rename_i hc
    split at h
    · cases h
      split
      · exact ⟨hl, hr⟩
      · rename_i hq
        rcases hc with hc | hc
        · exact absurd hc hq
        refine ⟨by simp; omega, fun x hx => ?_⟩
        rcases List.mem_append.mp hx with hx | hx
        · exact hr x hx
        · simp at hx; subst hx; exact hp
    · cases h
  · rename_i hc
    split at h
    · rename_i i
      split at h
      · rename_i hi
        cases h
        refine ⟨?_, fun x hx => ?_⟩
        · have : (row.filter fun x => decide (x ≠ i)).length < row.length := by
            rw [← List.countP_eq_length_filter]
            refine Nat.lt_of_le_of_ne List.countP_le_length fun e => ?_
            have := List.countP_eq_length.mp e i hi
            simp at this
          simp only [List.length_append, List.length_cons, List.length_nil]
          omega
        · rcases List.mem_append.mp hx with hx | hx
          · exact hr x (List.mem_filter.mp hx).1
          · simp at hx; subst hx; exact hp
      · cases h
    · cases h
theorem loop_10 (n fr : Nat) (h4 : fr ≤ 4) (v1 v2 : Option D) (M : Mem) : ∀ (l : List (Int × D)) (row : List Int) (k : Nat) (x y : Option D), (∀ q ∈ l, (0 ≤ q.1 ∧ q.1 ≤ 4) ∧ Smp q.2) → row.length ≤ fr → (∀ x ∈ row, 0 ≤ x ∧ x ≤ 4) →
    (∃ m d x' y', cnt fr l row k = some m ∧ forG none fg_10_0 fb_10_0 (callF tb (n + 2)) (l.map fun q => .tup [.int q.1, q.2]) [some (.int fr), v1, v2, some (.tup (row.map D.int)), some (.int k), x, y] M = .ok (.next [some (.int fr), v1, v2, some d, some (.int m), x', y']) M) ∨
    (cnt fr l row k = none ∧ forG none fg_10_0 fb_10_0 (callF tb (n + 2)) (l.map fun q => .tup [.int q.1, q.2]) [some (.int fr), v1, v2, some (.tup (row.map D.int)), some (.int k), x, y] M = .ok (.ret .non) M)
  | [], row, k, x, y, _, _, _ => .inl ⟨k, .tup (row.map D.int), x, y, rfl, rfl⟩
  | (p, c) :: l, row, k, x, y, hq, hl, hr => by
    obtain ⟨hp, hs⟩ := hq (p, c) List.mem_cons_self
    have hca := choice_after n fr row p c hs hr (by omega) M
    have hin := in_ints true p row M (d := .tup (row.map D.int)) rfl
    have ek : ∀ b : Bool, toIntD [.bl b] M = .ok (.int (if b then 1 else 0)) M := fun b => by cases b <;> rfl
    cases e : chA fr row p c with
    | none =>
      right
      rw [e] at hca
      refine ⟨by simp only [cnt, e], ?_⟩
      simp [forG, fg_10_0, fb_10_0, hin, ek, hca, encO, isD, D.isNon]
    | some row' =>
      rw [e] at hca
      obtain ⟨g1, g2⟩ := chA_ok e hl hr hp
      have ih := loop_10 n fr h4 v1 v2 M l row' (if p ∈ row then k else k + 1) (some (.int p)) (some c) (fun q h => hq q (List.mem_cons_of_mem _ h)) g1 g2
      have hstep : forG none fg_10_0 fb_10_0 (callF tb (n + 2)) (((p, c) :: l).map fun q => .tup [.int q.1, q.2]) [some (.int fr), v1, v2, some (.tup (row.map D.int)), some (.int k), x, y] M = forG none fg_10_0 fb_10_0 (callF tb (n + 2)) (l.map fun q => .tup [.int q.1, q.2]) [some (.int fr), v1, v2, some (.tup (row'.map D.int)), some (.int ((if p ∈ row then k else k + 1 : Nat) : Int)), some (.int p), some c] M := by
        by_cases hp' : p ∈ row
        · simp [forG, fg_10_0, fb_10_0, hin, ek, hca, encO, isD, D.isNon, hp']
        · simp [forG, fg_10_0, fb_10_0, hin, ek, hca, encO, isD, D.isNon, hp']
      rw [hstep]
      simp only [cnt, e]
      exact ih
end K49

namespace K49
open PySem L2 RI
theorem zip_map : ∀ (us : List Int) (ds : List D), zipD (us.map D.int) ds = (us.zip ds).map fun q => .tup [.int q.1, q.2]
  | [], _ => by simp [zipD]
  | _ :: _, [] => by simp [zipD]
  | u :: us, d :: ds => by simp [zipD, zip_map us ds]
/-- a value told as a row of choices -/
inductive Vok : D → Prop
  | tup (ds : List D) (h : ∀ d ∈ ds, Smp d) (hl : ds.length ≤ 1000) : Vok (.tup ds)
  | lst (ds : List D) (hl : ds.length ≤ 1000) : Vok (.lst ds)
  | non : Vok .non
  | int (i : Int) : Vok (.int i)
def fbV (fr : Nat) (us : List Int) (v : D) : Option Nat := match v with
  | .tup ds => if ds.length = us.length then cnt fr (us.zip ds) [] 0 else none
  | _ => none
theorem faults_by (n fr : Nat) (h1 : 1 ≤ fr) (h4 : fr ≤ 4) (us : List Int) (h : ∀ u ∈ us, 0 ≤ u ∧ u ≤ 4) (hl : us.length ≤ 200) (v : D) (hv : Vok v) (M : Mem) : callF tb (n + 3) 10 [.int fr, .tup (us.map D.int), v] M = .ok (encN (fbV fr us v)) M := by
  rw [u_10]
  have c1 := check_frames (n + 0) fr 4 (by omega) (by omega) M
  have c2 := check_uses (n + 0) us h hl M
  have hlu := fun M => len_of (M := M) (d := .tup (us.map D.int)) rfl
  cases hv with
  | tup ds hs hz =>
    have hld := fun M => len_of (M := M) (d := .tup ds) rfl
    by_cases e : ds.length = us.length
    · have lp := loop_10 n fr h4 (some (.tup (us.map D.int))) (some (.tup ds)) M (us.zip ds) [] 0 none none (fun q hq => ⟨h q.1 (List.of_mem_zip hq).1, hs q.2 (List.of_mem_zip hq).2⟩) (Nat.zero_le _) (by intro x hx; cases hx)
      rcases lp with ⟨m, d, x', y', g1, g2⟩ | ⟨g1, g2⟩
      · simp only [List.map_nil] at g2
        simp [b_10, c1, c2, D.ty, isiB, truD, hlu, hld, e, LIM, zip_map, fbV, g1, encN]
        rw [show ((0 : Nat) : Int) = 0 from rfl] at g2
        rw [g2]
        simp
      · simp only [List.map_nil] at g2
        simp [b_10, c1, c2, D.ty, isiB, truD, hlu, hld, e, LIM, zip_map, fbV, g1, encN]
        rw [show ((0 : Nat) : Int) = 0 from rfl] at g2
        rw [g2]
        simp
    · have e' : ¬ ((ds.length : Int) = us.length) := by omega
      simp [b_10, c1, c2, D.ty, isiB, truD, hlu, hld, e, e', fbV, encN]
  | lst ds hz => simp [b_10, c1, c2, D.ty, isiB, truD, fbV, encN]
  | non => simp [b_10, c1, c2, D.ty, isiB, truD, fbV, encN]
  | int i => simp [b_10, c1, c2, D.ty, isiB, truD, fbV, encN]
/-! the next use -/
theorem cut_nat (l : List D) (k : Nat) : cutD l (some (k : Int)) none = l.drop k := by
  unfold cutD
  rw [HT.sIx_nat, HT.sIx_none]
  rcases Nat.le_total k l.length with h | h
  · rw [Nat.min_eq_left h]
    exact List.take_of_length_le (by simp)
  · rw [Nat.min_eq_right h, List.drop_length, List.drop_of_length_le h]
    simp
theorem loop_11 (F : FT) (a b : Option D) (p : Int) (M : Mem) : ∀ (l : List Int) (k : Nat) (x y : Option D),
    if p ∈ l then forG none fg_11_0 fb_11_0 F (enumD k (l.map D.int)) [a, b, some (.int p), x, y] M = .ok (.ret (.int ((k + PG.nu p l : Nat) : Int))) M
    else ∃ x' y', forG none fg_11_0 fb_11_0 F (enumD k (l.map D.int)) [a, b, some (.int p), x, y] M = .ok (.next [a, b, some (.int p), x', y']) M
  | [], k, x, y => by
    rw [if_neg (by simp)]
    exact ⟨x, y, rfl⟩
  | u :: l, k, x, y => by
    by_cases e : u = p
    · subst e
      rw [if_pos (by simp)]
      simp [forG, enumD, fg_11_0, fb_11_0, PG.nu]
    · have ih := loop_11 F a b p M l (k + 1) (some (.int k)) (some (.int u))
      have hs : forG none fg_11_0 fb_11_0 F (enumD k ((u :: l).map D.int)) [a, b, some (.int p), x, y] M = forG none fg_11_0 fb_11_0 F (enumD (k + 1) (l.map D.int)) [a, b, some (.int p), some (.int k), some (.int u)] M := by
        simp [forG, enumD, fg_11_0, fb_11_0, e]
      have e' : ¬ p = u := fun q => e q.symm
      by_cases hm : p ∈ l
      · rw [if_pos hm] at ih
        rw [if_pos (by simp [hm]), hs, ih]
        simp only [PG.nu, if_neg e]
        rw [show k + 1 + PG.nu p l = k + (PG.nu p l + 1) by omega]
      · rw [if_neg hm] at ih
        rw [if_neg (by simp [hm, e']), hs]
        exact ih
def nx (us : List Int) (k : Nat) (p : Int) : Nat := if p ∈ us.drop (k + 1) then PG.nu p (us.drop (k + 1)) else us.length
theorem next_use (n : Nat) (us : List Int) (k : Nat) (p : Int) (M : Mem) : callF tb (n + 1) 11 [.tup (us.map D.int), .int k, .int p] M = .ok (.int (nx us k p)) M := by
  rw [u_11]
  have hlu := fun M => len_of (M := M) (d := .tup (us.map D.int)) rfl
  have hc : cutD (us.map D.int) (some ((k : Int) + 1)) none = (us.drop (k + 1)).map D.int := by
    have := cut_nat (us.map D.int) (k + 1)
    rw [List.map_drop]
    rw [← this]
    rfl
  have lp := loop_11 (callF tb n) (some (.tup (us.map D.int))) (some (.int k)) p M (us.drop (k + 1)) 0 none none
  by_cases hm : p ∈ us.drop (k + 1)
  · rw [if_pos hm, List.map_drop] at lp
    rw [List.map_drop] at hc
    simp [b_11, slT, hc, lp, nx, hm]
  · rw [if_neg hm] at lp
    obtain ⟨x', y', lp⟩ := lp
    rw [List.map_drop] at lp hc
    simp [b_11, slT, hc, lp, nx, hm, hlu]
theorem nu_le (p : Int) : ∀ l : List Int, PG.nu p l ≤ l.length
  | [] => Nat.le_refl _
  | u :: l => by
    have := nu_le p l
    simp only [PG.nu, List.length_cons]
    split <;> omega
theorem nu_lt (p : Int) : ∀ l : List Int, p ∈ l → PG.nu p l < l.length
  | [], h => by cases h
  | u :: l, h => by
    simp only [PG.nu, List.length_cons]
    split
    · omega
    · rename_i e
      have := nu_lt p l (by
        rcases List.mem_cons.mp h with q | q
        · exact absurd q.symm e
        · exact q)
      omega
theorem nu_no (p : Int) : ∀ l : List Int, p ∉ l → PG.nu p l = l.length
  | [], h => rfl
  | u :: l, h => by
    simp only [List.mem_cons, not_or] at h
    simp only [PG.nu, List.length_cons, if_neg (fun q : u = p => h.1 q.symm), nu_no p l h.2]
theorem nx_nu {us : List Int} {k : Nat} {x c : Int} (h : nx us k x ≤ nx us k c) : PG.nu x (us.drop (k + 1)) ≤ PG.nu c (us.drop (k + 1)) := by
  unfold nx at h
  by_cases hc : c ∈ us.drop (k + 1)
  · rw [if_pos hc] at h
    have h2 := nu_lt c _ hc
    have h3 : (us.drop (k + 1)).length ≤ us.length := by rw [List.length_drop]; omega
    by_cases hx : x ∈ us.drop (k + 1)
    · rw [if_pos hx] at h; exact h
    · rw [if_neg hx] at h; omega
  · rw [nu_no c _ hc]
    exact nu_le x _
/-! the greatest of pairs -/
def pq (g : Int → Int) (y : Int) : D := .tup [.int (g y), .int y]
theorem lt_pq (g : Int → Int) (x y : Int) : ltDD (pq g x) (pq g y) = !BF.lle [g y, y] [g x, x] := dlt_ints [g x, x] [g y, y]
theorem lt_pq_le (g : Int → Int) (x y : Int) : if ltDD (pq g x) (pq g y) = true then g x ≤ g y else g y ≤ g x := by
  rw [lt_pq]
  by_cases h1 : g y < g x
  · have : BF.lle [g y, y] [g x, x] = true := by simp [BF.lle, h1]
    simp [this]; omega
  · by_cases h2 : g x < g y
    · have : BF.lle [g y, y] [g x, x] = false := by
        have h3 : ¬ g y = g x := by omega
        simp [BF.lle, h1, h3]
      simp [this]; omega
    · have : g x = g y := by omega
      split <;> omega
theorem max_pq (g : Int → Int) : ∀ (l : List Int) (x : Int), ∃ c, c ∈ x :: l ∧ (∀ y ∈ x :: l, g y ≤ g c) ∧ maxL (pq g x) (l.map (pq g)) = pq g c
  | [], x => ⟨x, by simp, by simp, rfl⟩
  | y :: l, x => by
    have h := lt_pq_le g x y
    simp only [maxL, List.map_cons, List.foldl_cons]
    split at h
    · rename_i e
      obtain ⟨c, h1, h2, h3⟩ := max_pq g l y
      rw [if_pos e]
      refine ⟨c, List.mem_cons_of_mem _ h1, fun z hz => ?_, h3⟩
      rcases List.mem_cons.mp hz with rfl | hz
      · have := h2 y List.mem_cons_self; omega
      · exact h2 z hz
    · rename_i e
      obtain ⟨c, h1, h2, h3⟩ := max_pq g l x
      rw [if_neg e]
      refine ⟨c, ?_, fun z hz => ?_, h3⟩
      · rcases List.mem_cons.mp h1 with q | q
        · simp [q]
        · simp [q]
      · rcases List.mem_cons.mp hz with rfl | hz
        · exact h2 z List.mem_cons_self
        rcases List.mem_cons.mp hz with rfl | hz
        · have := h2 x List.mem_cons_self; omega
        · exact h2 z (List.mem_cons_of_mem _ hz)
theorem ord_pq (g : Int → Int) (l : List Int) : ordL (l.map (pq g)) = true := by
  have h1 : D.noObjs (l.map (pq g)) = true := noObjs_map _ (fun _ => rfl) l
  have h2 : alkD (l.map (pq g)) = true := by
    unfold alkD
    rw [toPs_map]
    rw [List.all_eq_true]
    intro x hx
    rw [List.all_eq_true]
    intro y hy
    obtain ⟨a, _, rfl⟩ := List.mem_map.mp hx
    obtain ⟨b, _, rfl⟩ := List.mem_map.mp hy
    rfl
  have h3 : (l.map (pq g)).all D.noN = true := by
    rw [List.all_eq_true]
    intro x hx
    obtain ⟨a, _, rfl⟩ := List.mem_map.mp hx
    rfl
  have h4 : Nat.ble (PyData.depthAll (D.toPs (l.map (pq g)))) 60 = true := by
    apply Nat.ble_eq_true_of_le
    rw [toPs_map]
    exact Nat.le_trans (depth_map _ 1 (fun a => by simp [pq, D.toP, D.toPs, PyData.depth, PyData.depthAll]) l) (by omega)
  unfold ordL
  rw [h1, h2, h3, h4]
  rfl
theorem max_row (g : Int → Int) (l : List Int) (hl : l ≠ []) (M : Mem) : ∃ c, c ∈ l ∧ (∀ y ∈ l, g y ≤ g c) ∧ maxLD [.lst (l.map (pq g))] M = .ok (pq g c) M := by
  cases l with
  | nil => exact absurd rfl hl
  | cons x l =>
    obtain ⟨c, h1, h2, h3⟩ := max_pq g l x
    refine ⟨c, h1, h2, ?_⟩
    have := ord_pq g (x :: l)
    simp only [List.map_cons] at this ⊢
    simp only [maxLD, lstD_lst, this, if_true, h3]
end K49

namespace K49
open PySem L2 RI
theorem out_perm {l : List Int} {c : Int} (nd : l.Nodup) (hc : c ∈ l) : l.Perm (c :: l.filter (fun x => decide (x ≠ c))) :=
  (moved_perm nd hc).symm.trans (PG.snoc _ _)
theorem lc_12 (n fr : Nat) (us : List Int) (k : Nat) (a h f p z : Option D) (row : List Int) (M : Mem) : lcG none lg_12_0 lt_12_0 le_12_0 (callF tb (n + 1)) [a, some (.tup (us.map D.int)), h, f, some (.int k), p, z, none] (row.map D.int) M = .ok (row.map (pq fun y => nx us k y)) M := by
  refine lc_all rfl _ row fun x _ => ⟨[a, some (.tup (us.map D.int)), h, f, some (.int k), p, z, some (.int x)], rfl, ?_⟩
  have := next_use n us k x M
  simp [le_12_0, this, LIM, pq]
theorem loop_12 (n fr : Nat) (h1 : 1 ≤ fr) (h4 : fr ≤ 4) (us : List Int) (hu : ∀ u ∈ us, 0 ≤ u ∧ u ≤ 4) (M : Mem) : ∀ (rest : List Int) (k : Nat) (row : List Int) (found : List D) (x y z : Option D), us.drop k = rest → row.length ≤ fr → row.Nodup → (∀ x ∈ row, 0 ≤ x ∧ x ≤ 4) → D.noObjs found = true → found.length + rest.length ≤ 1000 →
    ∃ ds e m d x' y' z', forG none fg_12_1 fb_12_1 (callF tb (n + 2)) (enumD k (rest.map D.int)) [some (.int fr), some (.tup (us.map D.int)), some (.tup (row.map D.int)), some (.obj M.length), x, y, z, none] (M ++ [.lst found])
        = .ok (.next [some (.int fr), some (.tup (us.map D.int)), some d, some (.obj M.length), x', y', z', none]) (M ++ [.lst (found ++ ds)])
      ∧ ds.length = rest.length ∧ (∀ d ∈ ds, Smp d) ∧ PG.Far fr row rest e m ∧ ∀ j, cnt fr (rest.zip ds) row j = some (j + m)
  | [], k, row, found, x, y, z, _, _, _, _, _, _ => ⟨[], row, 0, .tup (row.map D.int), x, y, z, by simp [enumD, forG], rfl, by simp, .nil, fun j => by simp [cnt]⟩
  | p :: rest, k, row, found, x, y, z, hd, hl, nd, hr, hn, hz => by
    have hd' : us.drop (k + 1) = rest := by
      have := congrArg (List.drop 1) hd
      rw [List.drop_drop] at this
      simpa [Nat.add_comm] using this
    have hp : 0 ≤ p ∧ p ≤ 4 := hu p (List.mem_of_mem_drop (i := k) (by rw [hd]; simp))
    have hlz : found.length < 1000 := by simp at hz; omega
    have happ : ∀ v, D.noObj v = true → appD (.obj M.length) v (M ++ [.lst found]) = .ok .non (M ++ [.lst (found ++ [v])]) := fun v hv => app_last (M := M) (X := []) (l := found) (by show found.length < 16777216; omega) hv
    have hin := fun M => in_ints true p row M (d := .tup (row.map D.int)) rfl
    have hlen := fun M => len_of (M := M) (d := .tup (row.map D.int)) rfl
    -- what is chosen
    have main : ∀ (c : D) (row' : List Int), Smp c → D.noObj c = true → chA fr row p c = some row' → row'.Nodup →
        forG none fg_12_1 fb_12_1 (callF tb (n + 2)) (enumD k ((p :: rest).map D.int)) [some (.int fr), some (.tup (us.map D.int)), some (.tup (row.map D.int)), some (.obj M.length), x, y, z, none] (M ++ [.lst found])
          = forG none fg_12_1 fb_12_1 (callF tb (n + 2)) (enumD (k + 1) (rest.map D.int)) [some (.int fr), some (.tup (us.map D.int)), some (.tup (row'.map D.int)), some (.obj M.length), some (.int k), some (.int p), some c, none] (M ++ [.lst (found ++ [c])]) →
        (∀ e m, PG.Far fr row' rest e m → PG.Far fr row (p :: rest) e (if p ∈ row then m else m + 1)) →
        ∃ ds e m d x' y' z', forG none fg_12_1 fb_12_1 (callF tb (n + 2)) (enumD k ((p :: rest).map D.int)) [some (.int fr), some (.tup (us.map D.int)), some (.tup (row.map D.int)), some (.obj M.length), x, y, z, none] (M ++ [.lst found])
            = .ok (.next [some (.int fr), some (.tup (us.map D.int)), some d, some (.obj M.length), x', y', z', none]) (M ++ [.lst (found ++ ds)])
          ∧ ds.length = (p :: rest).length ∧ (∀ d ∈ ds, Smp d) ∧ PG.Far fr row (p :: rest) e m ∧ ∀ j, cnt fr ((p :: rest).zip ds) row j = some (j + m) := by
      intro c row' hs hc hch nd' hst hfar
      obtain ⟨g1, g2⟩ := chA_ok hch hl hr hp
      obtain ⟨ds, e, m, d, x', y', z', i1, i2, i3, i4, i5⟩ := loop_12 n fr h1 h4 us hu M rest (k + 1) row' (found ++ [c]) (some (.int k)) (some (.int p)) (some c) hd' g1 nd' g2 (by simp [noObjs_app, hn, hc]) (by simp at hz ⊢; omega)
      refine ⟨c :: ds, e, _, d, x', y', z', hst.trans (i1.trans (by simp)), by simp [i2], ?_, hfar e m i4, fun j => ?_⟩
      · intro d hd
        rcases List.mem_cons.mp hd with rfl | hd
        · exact hs
        · exact i3 d hd
      · simp only [List.zip_cons_cons, cnt, hch, i5]
        split <;> congr 1 <;> omega
    by_cases hm : p ∈ row
    · refine main .non row .non rfl (by simp [chA, hm]) nd ?_ (fun e m q => by rw [if_pos hm]; exact .hit hm q)
      have hca := fun M => choice_after n fr row p .non .non hr (by omega) M
      simp only [chA, hm, true_or, if_true, encO] at hca
      simp [forG, enumD, fg_12_1, fb_12_1, hin, hm, hlen, happ, hca]
    · by_cases hf : row.length = fr
      · -- one goes out
        obtain ⟨c, k1, k2, k3⟩ := max_row (fun y => (nx us k y : Int)) row (by intro e; rw [e] at hf; simp at hf; omega) (M ++ [.lst found])
        have hop := out_perm nd k1
        have hch : chA fr row p (.int c) = some (row.filter (fun x => decide (x ≠ c)) ++ [p]) := by
          have h3 : ¬ row.length < fr := by omega
          simp [chA, hm, h3, k1]
        refine main (.int c) _ (.int c) rfl hch ?_ ?_ ?_
        · rw [(PG.snoc _ _).nodup_iff, List.nodup_cons]
          refine ⟨fun q => hm (List.mem_filter.mp q).1, ?_⟩
          exact (List.nodup_cons.mp (hop.nodup_iff.mp nd)).2
        · have hca := fun M => choice_after n fr row p (.int c) (.int c) hr (by omega) M
          simp only [hch, encO] at hca
          have hlc := lc_12 (n + 1) fr us k (some (.int fr)) (some (.tup (row.map D.int))) (some (.obj M.length)) (some (.int p)) (some .non) row (M ++ [.lst found])
          have hf' : (row.length : Int) = fr := by omega
          have z3 : row.length ≤ 16777216 := by omega
          simp only [List.map_append, List.map_cons, List.map_nil] at hca
          simp [forG, enumD, fg_12_1, fb_12_1, hin, hm, hlen, hf', wipeE, hlc, LIM, z3, k3, pq, ix_tup1, happ, hca]
        · intro e m q
          rw [if_neg hm]
          refine .out hm hf hop (fun y hy => ?_) q
          have := nx_nu (us := us) (k := k) (x := y) (c := c) (by have := k2 y hy; omega)
          rw [hd'] at this
          exact this
      · refine main .non (row ++ [p]) .non rfl (by have : row.length < fr := by omega
                                                   simp [chA, hm, this]) ?_ ?_ (fun e m q => by rw [if_neg hm]; exact .add hm (by omega) q)
        · rw [(PG.snoc _ _).nodup_iff, List.nodup_cons]
          exact ⟨hm, nd⟩
        · have hca := fun M => choice_after n fr row p .non .non hr (by omega) M
          have h3 : row.length < fr := by omega
          simp only [chA, hm, h3, false_or, if_true, if_false, encO, List.map_append, List.map_cons, List.map_nil] at hca
          have hf' : ¬ (row.length : Int) = fr := by omega
          simp [forG, enumD, fg_12_1, fb_12_1, hin, hm, hlen, hf', happ, hca]
end K49

namespace K49
open PySem L2 RI
theorem smp_no {d : D} (h : Smp d) : D.noObj d = true := by cases h <;> rfl
theorem smp_nos : ∀ {ds : List D}, (∀ d ∈ ds, Smp d) → D.noObjs ds = true
  | [], _ => rfl
  | d :: ds, h => by
    simp only [noObjs_cons, smp_no (h d List.mem_cons_self), smp_nos (fun x hx => h x (List.mem_cons_of_mem _ hx)), Bool.and_self]
theorem choices_of (n fr : Nat) (h1 : 1 ≤ fr) (h4 : fr ≤ 4) (us : List Int) (hu : ∀ u ∈ us, 0 ≤ u ∧ u ≤ 4) (hl : us.length ≤ 200) (M : Mem) :
    ∃ ds e m, callF tb (n + 3) 12 [.int fr, .tup (us.map D.int)] M = .ok (.tup ds) M ∧ ds.length = us.length ∧ (∀ d ∈ ds, Smp d) ∧ PG.Far fr [] us e m ∧ ∀ j, cnt fr (us.zip ds) [] j = some (j + m) := by
  obtain ⟨ds, e, m, d, x', y', z', i1, i2, i3, i4, i5⟩ := loop_12 n fr h1 h4 us hu M us 0 [] [] none none none rfl (Nat.zero_le _) List.nodup_nil (by simp) rfl (by simp; omega)
  refine ⟨ds, e, m, ?_, i2, i3, i4, i5⟩
  rw [u_12]
  simp only [List.map_nil, List.nil_append] at i1
  have hn := newO_pure (l := []) rfl M
  have ht : toTupD [.obj M.length] (M ++ [.lst ds]) = .ok (.tup ds) (M ++ [.lst ds]) := tup_of lstD_last
  simp [b_12, hn, i1, LIM, ht, smp_nos i3]
theorem best_choices (n fr : Nat) (h1 : 1 ≤ fr) (h4 : fr ≤ 4) (us : List Int) (hu : ∀ u ∈ us, 0 ≤ u ∧ u ≤ 4) (hl : us.length ≤ 200) (M : Mem) :
    ∃ ds e m, callF tb (n + 4) 13 [.int fr, .tup (us.map D.int)] M = .ok (.tup ds) M ∧ ds.length = us.length ∧ (∀ d ∈ ds, Smp d) ∧ PG.Far fr [] us e m ∧ ∀ j, cnt fr (us.zip ds) [] j = some (j + m) := by
  obtain ⟨ds, e, m, q, r⟩ := choices_of n fr h1 h4 us hu hl M
  refine ⟨ds, e, m, ?_, r⟩
  rw [u_13]
  have c1 := check_frames (n + 1) fr 4 (by omega) (by omega) M
  have c2 := check_uses (n + 1) us hu hl M
  simp [b_13, c1, c2, q, smp_nos r.2.1]
theorem fewest_faults (n fr : Nat) (h1 : 1 ≤ fr) (h4 : fr ≤ 4) (us : List Int) (hu : ∀ u ∈ us, 0 ≤ u ∧ u ≤ 4) (hl : us.length ≤ 200) (M : Mem) :
    ∃ e m, callF tb (n + 4) 14 [.int fr, .tup (us.map D.int)] M = .ok (.int (m : Nat)) M ∧ PG.Far fr [] us e m := by
  obtain ⟨ds, e, m, q, r1, r2, r3, r4⟩ := choices_of n fr h1 h4 us hu hl M
  refine ⟨e, m, ?_, r3⟩
  rw [u_14]
  have c1 := check_frames (n + 1) fr 4 (by omega) (by omega) M
  have c2 := check_uses (n + 1) us hu hl M
  have hf := faults_by n fr h1 h4 us hu hl (.tup ds) (.tup ds r2 (by omega)) M
  have hv : fbV fr us (.tup ds) = some m := by simp [fbV, r1, r4]
  rw [hv] at hf
  simp [b_14, c1, c2, q, hf, encN]
/-! the law's count -/
theorem eq_in (x : Int) (M : Mem) : eqD true (.int x) .non M = .ok (.bl true) M := by
  simp [eqD, derefD, D.toP, SeqAt.shaped, PyData.canLay0, PyData.depth, PyData.eqv, D.noObj]
theorem lc_22i (F : FT) (a b c d e f : Option D) (i : Int) (l : List Int) (M : Mem) : lcG none lg_22_0 lt_22_0 le_22_0 F [a, b, c, d, e, f, some (.int i), none] (l.map D.int) M = .ok ((l.filter (fun x => decide (x ≠ i))).map D.int) M := by
  refine lc_ok rfl (fun x => decide (x ≠ i)) D.int l fun x _ => ⟨_, rfl, ?_, fun _ => rfl⟩
  simp [lt_22_0]
theorem lc_22n (F : FT) (a b c d e f : Option D) (l : List Int) (M : Mem) : lcG none lg_22_0 lt_22_0 le_22_0 F [a, b, c, d, e, f, some .non, none] (l.map D.int) M = .ok (l.map D.int) M := by
  have := lc_ok (g := lg_22_0) (mt := lt_22_0) (me := le_22_0) (F := F) (r := [a, b, c, d, e, f, some .non, none]) (gd := none) (M := M) (enc := D.int) rfl (fun _ => true) D.int l fun x _ => ⟨_, rfl, by simp [lt_22_0, eq_in], fun _ => rfl⟩
  rw [this, List.filter_eq_self.mpr (fun _ _ => rfl)]
theorem loop_22 (F : FT) (fr : Nat) (h4 : fr ≤ 4) (us : List Int) (ds : List D) (M : Mem) : ∀ (l : List (Int × D)) (k : Nat) (row : List Int) (j : Nat) (x y : Option D), us.zip ds = (us.zip ds).take k ++ l → us.length = ds.length → k + l.length = us.length → us.length ≤ 1000 → (∀ q ∈ l, (0 ≤ q.1 ∧ q.1 ≤ 4) ∧ Smp q.2) → row.length ≤ fr → (∀ x ∈ row, 0 ≤ x ∧ x ≤ 4) →
    (∃ m d x' y', cnt fr l row j = some m ∧ forG none fg_22_1 fb_22_1 F ((List.range' k l.length).map (fun i => D.int ((0 : Int) + (i : Nat)))) [some (.int fr), some (.tup (us.map D.int)), some (.tup ds), x, some (.lst (row.map D.int)), some (.int j), y, none] M = .ok (.next [some (.int fr), some (.tup (us.map D.int)), some (.tup ds), x', some d, some (.int m), y', none]) M) ∨
    (cnt fr l row j = none ∧ forG none fg_22_1 fb_22_1 F ((List.range' k l.length).map (fun i => D.int ((0 : Int) + (i : Nat)))) [some (.int fr), some (.tup (us.map D.int)), some (.tup ds), x, some (.lst (row.map D.int)), some (.int j), y, none] M = .ok (.ret .non) M)
  | [], k, row, j, x, y, _, _, _, _, _, _, _ => .inl ⟨j, .lst (row.map D.int), x, y, rfl, by simp [forG]⟩
  | (p, c) :: l, k, row, j, x, y, hz, hlen, hk, hb, hq, hl, hr => by
    obtain ⟨hp, hs⟩ := hq (p, c) List.mem_cons_self
    have hkl : k < us.length := by simp at hk; omega
    have hlz : (us.zip ds).length = us.length := by rw [List.length_zip]; omega
    have hg : (us.zip ds)[k]? = some (p, c) := by
      rw [hz, List.getElem?_append_right (by rw [List.length_take]; omega)]
      rw [List.length_take, Nat.min_eq_left (by omega)]
      simp
    obtain ⟨hgu, hgd⟩ := List.getElem?_zip_eq_some.mp hg
    have hu : ixD (.tup (us.map D.int)) (.int (k : Int)) M = .ok (.int p) M := ix_get rfl (atI_nat (by rw [List.getElem?_map, hgu]; rfl))
    have hd : ixD (.tup ds) (.int (k : Int)) M = .ok c M := ix_get rfl (atI_nat hgd)
    have hin := fun b => in_ints b p row M (d := .lst (row.map D.int)) rfl
    have hlr := len_of (M := M) (d := .lst (row.map D.int)) rfl
    have hz' : us.zip ds = (us.zip ds).take (k + 1) ++ l := by
      have e1 : (us.zip ds).drop k = (p, c) :: l := by
        have := congrArg (List.drop k) hz
        rw [List.drop_append_of_le_length (by rw [List.length_take]; omega)] at this
        have e0 : ((us.zip ds).take k).drop k = [] := List.drop_of_length_le (by rw [List.length_take]; omega)
        rw [e0] at this
        simpa using this
      have e2 : (us.zip ds).drop (k + 1) = l := by
        have := congrArg (List.drop 1) e1
        rw [List.drop_drop] at this
        simpa [Nat.add_comm] using this
      rw [← e2, List.take_append_drop]
    have z1 : row.length + 1 ≤ 16777216 := by omega
    have z3 : row.length ≤ 16777216 := by omega
    have go : ∀ row' : List Int, chA fr row p c = some row' →
        forG none fg_22_1 fb_22_1 F ((List.range' k (l.length + 1)).map (fun i => D.int ((0 : Int) + (i : Nat)))) [some (.int fr), some (.tup (us.map D.int)), some (.tup ds), x, some (.lst (row.map D.int)), some (.int j), y, none] M
          = forG none fg_22_1 fb_22_1 F ((List.range' (k + 1) l.length).map (fun i => D.int ((0 : Int) + (i : Nat)))) [some (.int fr), some (.tup (us.map D.int)), some (.tup ds), some (.int k), some (.lst (row'.map D.int)), some (.int ((if p ∈ row then j else j + 1 : Nat) : Int)), some c, none] M →
        (∃ m d x' y', cnt fr ((p, c) :: l) row j = some m ∧ forG none fg_22_1 fb_22_1 F ((List.range' k (l.length + 1)).map (fun i => D.int ((0 : Int) + (i : Nat)))) [some (.int fr), some (.tup (us.map D.int)), some (.tup ds), x, some (.lst (row.map D.int)), some (.int j), y, none] M = .ok (.next [some (.int fr), some (.tup (us.map D.int)), some (.tup ds), x', some d, some (.int m), y', none]) M) ∨
        (cnt fr ((p, c) :: l) row j = none ∧ forG none fg_22_1 fb_22_1 F ((List.range' k (l.length + 1)).map (fun i => D.int ((0 : Int) + (i : Nat)))) [some (.int fr), some (.tup (us.map D.int)), some (.tup ds), x, some (.lst (row.map D.int)), some (.int j), y, none] M = .ok (.ret .non) M) := by
      intro row' hch hst
      obtain ⟨g1, g2⟩ := chA_ok hch hl hr hp
      have ih := loop_22 F fr h4 us ds M l (k + 1) row' (if p ∈ row then j else j + 1) (some (.int k)) (some c) hz' hlen (by simp at hk; omega) hb (fun q h => hq q (List.mem_cons_of_mem _ h)) g1 g2
      rw [hst]
      simp only [cnt, hch]
      exact ih
    have no : chA fr row p c = none → forG none fg_22_1 fb_22_1 F ((List.range' k (l.length + 1)).map (fun i => D.int ((0 : Int) + (i : Nat)))) [some (.int fr), some (.tup (us.map D.int)), some (.tup ds), x, some (.lst (row.map D.int)), some (.int j), y, none] M = .ok (.ret .non) M →
        (∃ m d x' y', cnt fr ((p, c) :: l) row j = some m ∧ forG none fg_22_1 fb_22_1 F ((List.range' k (l.length + 1)).map (fun i => D.int ((0 : Int) + (i : Nat)))) [some (.int fr), some (.tup (us.map D.int)), some (.tup ds), x, some (.lst (row.map D.int)), some (.int j), y, none] M = .ok (.next [some (.int fr), some (.tup (us.map D.int)), some (.tup ds), x', some d, some (.int m), y', none]) M) ∨
        (cnt fr ((p, c) :: l) row j = none ∧ forG none fg_22_1 fb_22_1 F ((List.range' k (l.length + 1)).map (fun i => D.int ((0 : Int) + (i : Nat)))) [some (.int fr), some (.tup (us.map D.int)), some (.tup ds), x, some (.lst (row.map D.int)), some (.int j), y, none] M = .ok (.ret .non) M) := by
      intro hch hst
      exact .inr ⟨by simp only [cnt, hch], hst⟩
    rw [List.length_cons]
    rw [rng_cons]
    rw [rng_cons] at go no
    by_cases h : p ∈ row ∨ row.length < fr
    · have hcond : p ∈ row ∨ (row.length : Int) < fr := by
        rcases h with h | h
        · exact .inl h
        · exact .inr (by omega)
      cases hs with
      | non =>
        by_cases hm : p ∈ row
        · refine go row (by simp [chA, hm]) ?_
          simp [forG, fg_22_1, fb_22_1, hu, hd, hin, hlr, hm, isD, D.isNon]
        · have h2 : (row.length : Int) < fr := by rcases hcond with q | q; exact absurd q hm; exact q
          have h3 : row.length < fr := by omega
          refine go (row ++ [p]) (by simp [chA, hm, h3]) ?_
          have hlc := lc_22n F (some (.int fr)) (some (.tup (us.map D.int))) (some (.tup ds)) (some (.int k)) (some (.lst (row.map D.int))) (some (.int j)) row M
          simp [forG, fg_22_1, fb_22_1, hu, hd, hin, hlr, hm, h2, isD, D.isNon, wipeE, hlc, LIM, z3, add_lst, z1]
      | _ =>
        refine no (by simp [chA, h]) ?_
        by_cases hm : p ∈ row
        · simp [forG, fg_22_1, fb_22_1, hu, hd, hin, hlr, hm, isD, D.isNon]
        · have h2 : (row.length : Int) < fr := by rcases hcond with q | q; exact absurd q hm; exact q
          simp [forG, fg_22_1, fb_22_1, hu, hd, hin, hlr, hm, h2, isD, D.isNon]
    · have hm : p ∉ row := fun q => h (.inl q)
      have h2 : ¬ (row.length : Int) < fr := fun q => h (.inr (by omega))
      have h3 : ¬ row.length < fr := fun q => h (.inr q)
      cases hs with
      | int i =>
        have hin2 := in_ints true i row M (d := .lst (row.map D.int)) rfl
        by_cases hi : i ∈ row
        · refine go (row.filter (fun x => decide (x ≠ i)) ++ [p]) (by simp [chA, hm, h3, hi]) ?_
          have hlc := lc_22i F (some (.int fr)) (some (.tup (us.map D.int))) (some (.tup ds)) (some (.int k)) (some (.lst (row.map D.int))) (some (.int j)) i row M
          have hf : (row.filter fun x => decide (x ≠ i)).length ≤ row.length := List.length_filter_le _ _
          have z4 : (row.filter fun x => !decide (x = i)).length + 1 ≤ 16777216 := by simp at hf; omega
          simp [forG, fg_22_1, fb_22_1, hu, hd, hin, hin2, hi, hlr, hm, h2, D.ty, isiB, truD, wipeE, hlc, LIM, z3, add_lst, z4]
        · refine no (by simp [chA, hm, h3, hi]) ?_
          simp [forG, fg_22_1, fb_22_1, hu, hd, hin, hin2, hi, hlr, hm, h2, D.ty, isiB, truD]
      | _ =>
        refine no (by simp [chA, hm, h3]) ?_
        simp [forG, fg_22_1, fb_22_1, hu, hd, hin, hlr, hm, h2, D.ty, isiB, truD]
theorem law_count (n fr : Nat) (h4 : fr ≤ 4) (us : List Int) (h : ∀ u ∈ us, 0 ≤ u ∧ u ≤ 4) (hl : us.length ≤ 200) (v : D) (hv : Vok v) (M : Mem) : callF tb (n + 1) 22 [.int fr, .tup (us.map D.int), v] M = .ok (encN (fbV fr us v)) M := by
  rw [u_22]
  have hlu := fun M => len_of (M := M) (d := .tup (us.map D.int)) rfl
  cases hv with
  | tup ds hs hz =>
    have hld := fun M => len_of (M := M) (d := .tup ds) rfl
    by_cases e : ds.length = us.length
    · have lp := loop_22 (callF tb n) fr h4 us ds M (us.zip ds) 0 [] 0 none none (by simp) e.symm (by simp; omega) (by omega) (fun q hq => ⟨h q.1 (List.of_mem_zip hq).1, hs q.2 (List.of_mem_zip hq).2⟩) (Nat.zero_le _) (by intro x hx; cases hx)
      have hzl : (us.zip ds).length = us.length := by rw [List.length_zip]; omega
      have hrg : rngOk (us.length : Int) = true := by
        unfold rngOk
        simp; omega
      rw [hzl, ← rng_eq] at lp
      rw [show ((0 : Nat) : Int) = 0 from rfl] at lp
      simp only [List.map_nil] at lp
      rcases lp with ⟨m, d, x', y', g1, g2⟩ | ⟨g1, g2⟩
      · simp [b_22, D.ty, isiB, truD, hlu, hld, e, LIM, fbV, g1, encN, hrg]
        rw [g2]
        simp
      · simp [b_22, D.ty, isiB, truD, hlu, hld, e, LIM, fbV, g1, encN, hrg]
        rw [g2]
        simp
    · have e' : ¬ ((ds.length : Int) = us.length) := by omega
      simp [b_22, D.ty, isiB, truD, hlu, hld, e, e', fbV, encN]
  | lst ds hz => simp [b_22, D.ty, isiB, truD, fbV, encN]
  | non => simp [b_22, D.ty, isiB, truD, fbV, encN]
  | int i => simp [b_22, D.ty, isiB, truD, fbV, encN]
end K49

namespace K49
open PySem L2 RI
/-! a dict of rows and numbers -/
abbrev tI (k : List Int) : D := .tup (k.map D.int)
abbrev PD := List (List Int × Nat)
def dE (L : PD) : List (D × D) := L.map fun q => (tI q.1, .int q.2)
def pget (k : List Int) : PD → Option Nat
  | [] => none
  | q :: r => if q.1 = k then some q.2 else pget k r
def pset (k : List Int) (v : Nat) (L : PD) : PD := if (pget k L).isSome then L.map (fun q => if q.1 = k then (q.1, v) else q) else L ++ [(k, v)]
theorem tI_inj {a b : List Int} (h : D.toK (tI a) = D.toK (tI b)) : a = b := by
  simp only [D.toK, NestedKey.tup.injEq] at h
  exact inj_ints a b h
theorem tI_key (k : List Int) : D.isKey (tI k) = true := by
  have := dp_ints k
  simp only [D.isKey, ky_ints, Bool.true_and]
  apply Nat.ble_eq_true_of_le
  omega
theorem beq_tI (a b : List Int) : NestedKey.beq (D.toK (tI a)) (D.toK (tI b)) = decide (a = b) := by
  by_cases h : a = b
  · subst h; simp [(beq_iff _ _).mpr rfl]
  · rw [decide_eq_false h]
    cases e : NestedKey.beq (D.toK (tI a)) (D.toK (tI b)) with
    | false => rfl
    | true => exact absurd (tI_inj ((beq_iff _ _).mp e)) h
theorem dget_dE (k : List Int) : ∀ L : PD, dgetD (D.toK (tI k)) (dE L) = (pget k L).map fun n => .int (n : Nat)
  | [] => rfl
  | q :: L => by
    have ih := dget_dE k L
    simp only [dE, List.map_cons, dgetD, beq_tI, pget] at ih ⊢
    by_cases h : q.1 = k
    · simp [h]
    · simp [h, ih]
theorem dset_dE (k : List Int) (v : Nat) (L : PD) : dsetD (tI k) (.int v) (dE L) = dE (pset k v L) := by
  unfold dsetD pset
  rw [dget_dE, Option.isSome_map]
  split
  · simp only [dE, List.map_map]
    apply List.map_congr_left
    intro q _
    simp only [Function.comp, beq_tI]
    by_cases h : q.1 = k
    · simp [h]
    · simp [h]
  · simp [dE]
theorem pget_map (k k' : List Int) (v : Nat) : ∀ L : PD, pget k' (L.map (fun q => if q.1 = k then (q.1, v) else q)) = if k' = k then (pget k L).map (fun _ => v) else pget k' L
  | [] => by simp [pget]
  | q :: L => by
    have ih := pget_map k k' v L
    simp only [List.map_cons, pget]
    by_cases hq : q.1 = k
    · simp only [hq, if_true]
      by_cases h' : k = k'
      · subst h'; simp
      · simp only [if_neg h', ih, if_neg (fun e : k' = k => h' e.symm)]
    · simp only [hq, if_false, ih]
      by_cases h' : q.1 = k'
      · simp only [h', if_true]
        rw [if_neg (fun e => hq (h'.trans e))]
      · simp [h']
theorem pget_app (k k' : List Int) (v : Nat) : ∀ L : PD, pget k' (L ++ [(k, v)]) = (pget k' L).or (if k = k' then some v else none)
  | [] => by simp [pget]
  | q :: L => by
    simp only [List.cons_append, pget, pget_app k k' v L]
    split <;> simp
theorem pget_pset (k k' : List Int) (v : Nat) (L : PD) : pget k' (pset k v L) = if k' = k then some v else pget k' L := by
  unfold pset
  split
  · rename_i h
    rw [pget_map]
    split
    · obtain ⟨w, e⟩ := Option.isSome_iff_exists.mp h
      rw [e]; rfl
    · rfl
  · rename_i h
    have e : pget k L = none := by simpa using h
    rw [pget_app]
    by_cases hk : k' = k
    · subst hk; simp [e]
    · rw [if_neg (fun z : k = k' => hk z.symm), if_neg hk]; simp
theorem pget_some {k : List Int} : ∀ {L : PD}, k ∈ L.map (·.1) → ∃ v, pget k L = some v
  | [], h => by simp at h
  | q :: L, h => by
    simp only [pget]
    by_cases e : q.1 = k
    · exact ⟨q.2, by simp [e]⟩
    · obtain ⟨v, hv⟩ := pget_some (k := k) (L := L) (by
        rcases List.mem_cons.mp h with z | z
        · exact absurd z.symm e
        · exact z)
      exact ⟨v, by simp [e, hv]⟩
theorem pget_key {k : List Int} {v : Nat} : ∀ {L : PD}, pget k L = some v → k ∈ L.map (·.1)
  | [], h => by simp [pget] at h
  | q :: L, h => by
    simp only [pget] at h
    by_cases e : q.1 = k
    · simp [e]
    · rw [if_neg e] at h
      exact List.mem_cons_of_mem _ (pget_key h)
theorem pset_keys (k : List Int) (v : Nat) (L : PD) : (pset k v L).map (·.1) = if k ∈ L.map (·.1) then L.map (·.1) else L.map (·.1) ++ [k] := by
  unfold pset
  by_cases h : k ∈ L.map (·.1)
  · obtain ⟨w, e⟩ := pget_some h
    rw [e, if_pos h]
    simp only [Option.isSome_some, if_true, List.map_map]
    apply List.map_congr_left
    intro q _
    simp only [Function.comp]
    split <;> rfl
  · have e : pget k L = none := by
      cases e : pget k L with
      | none => rfl
      | some w => exact absurd (pget_key e) h
    rw [e, if_neg h]
    simp
/-! rows, few of them -/
theorem card_of {A : Type} (P : A → Prop) (c : A → Nat) (K : Nat) (lt : ∀ a, P a → c a < K) (inj : ∀ a b, P a → P b → c a = c b → a = b) (l : List A) (nd : l.Nodup) (h : ∀ a ∈ l, P a) : l.length ≤ K := by
  have nd' : (l.map c).Nodup := by
    show List.Pairwise (· ≠ ·) (l.map c)
    rw [List.pairwise_map]
    exact List.Pairwise.imp_of_mem (fun ha hb hne e => hne (inj _ _ (h _ ha) (h _ hb) e)) nd
  have := nd'.length_le_of_subset (l₂ := List.range K) (fun x hx => by
    obtain ⟨a, ha, rfl⟩ := List.mem_map.mp hx
    exact List.mem_range.mpr (lt a (h a ha)))
  simpa using this
def cdI : List Int → Nat
  | [] => 0
  | x :: l => (x.toNat + 1) + 5 * cdI l
def okRow (k : List Int) : Prop := k.length ≤ 4 ∧ ∀ x ∈ k, 0 ≤ x ∧ x ≤ 4
theorem cdI_inj : ∀ l l' : List Int, (∀ x ∈ l, 0 ≤ x ∧ x ≤ 4) → (∀ x ∈ l', 0 ≤ x ∧ x ≤ 4) → cdI l = cdI l' → l = l'
  | [], [], _, _, _ => rfl
  | [], y :: l', _, _, h => by simp only [cdI] at h; omega
  | x :: l, [], _, _, h => by simp only [cdI] at h; omega
  | x :: l, y :: l', h1, h2, h => by
    have k1 := h1 x List.mem_cons_self
    have k2 := h2 y List.mem_cons_self
    simp only [cdI] at h
    have e1 : x = y := by omega
    have e2 : cdI l = cdI l' := by omega
    rw [e1, cdI_inj l l' (fun z hz => h1 z (List.mem_cons_of_mem _ hz)) (fun z hz => h2 z (List.mem_cons_of_mem _ hz)) e2]
theorem cdI_lt (k : List Int) (h : okRow k) : cdI k < 1000 := by
  obtain ⟨hl, hx⟩ := h
  match k, hl, hx with
  | [], _, _ => simp [cdI]
  | [a], _, hx => have := hx a (by simp); simp only [cdI]; omega
  | [a, b], _, hx => have := hx a (by simp); have := hx b (by simp); simp only [cdI]; omega
  | [a, b, c], _, hx => have := hx a (by simp); have := hx b (by simp); have := hx c (by simp); simp only [cdI]; omega
  | [a, b, c, d], _, hx => have := hx a (by simp); have := hx b (by simp); have := hx c (by simp); have := hx d (by simp); simp only [cdI]; omega
  | _ :: _ :: _ :: _ :: _ :: _, hl, _ => simp at hl
structure GoodL (L : PD) : Prop where
  nd : (L.map (·.1)).Nodup
  ok : ∀ k ∈ L.map (·.1), okRow k
theorem GoodL.few {L : PD} (h : GoodL L) : L.length ≤ 1000 := by
  have := card_of okRow cdI 1000 cdI_lt (fun a b ha hb e => cdI_inj a b ha.2 hb.2 e) _ h.nd h.ok
  simpa using this
theorem GoodL.put {L : PD} (h : GoodL L) {k : List Int} (hk : okRow k) (v : Nat) : GoodL (pset k v L) := by
  have e := pset_keys k v L
  constructor
  · rw [e]
    split
    · exact h.nd
    · rename_i hn
      rw [List.nodup_append]
      refine ⟨h.nd, by simp, ?_⟩
      intro a ha b hb
      simp at hb
      subst hb
      exact fun z => hn (z ▸ ha)
  · rw [e]
    intro x hx
    split at hx
    · exact h.ok x hx
    · rcases List.mem_append.mp hx with hx | hx
      · exact h.ok x hx
      · simp at hx; subst hx; exact hk
/-! rows in order -/
def toI : D → Int
  | .int i => i
  | _ => 0
def srtI (l : List Int) : List Int := (srtL (l.map D.int)).map toI
theorem srtI_perm (l : List Int) : (srtI l).Perm l := by
  have h := (List.mergeSort_perm (l.map D.int) leDD).map toI
  rw [List.map_map] at h
  have e : (toI ∘ D.int) = id := by funext x; rfl
  rw [e, List.map_id] at h
  exact h
theorem srtL_int (l : List Int) : srtL (l.map D.int) = (srtI l).map D.int := by
  unfold srtI
  rw [List.map_map]
  conv => lhs; rw [← List.map_id (srtL (l.map D.int))]
  apply List.map_congr_left
  intro d hd
  obtain ⟨i, _, rfl⟩ := List.mem_map.mp ((List.mergeSort_perm (l.map D.int) leDD).mem_iff.mp hd)
  rfl
theorem ord_int (l : List Int) : (ordL (l.map D.int) && sbl (l.map D.int)) = true := by
  have h2 : alkD (l.map D.int) = true := by
    unfold alkD
    rw [toPs_map, List.all_eq_true]
    intro x hx
    rw [List.all_eq_true]
    intro y hy
    obtain ⟨a, _, rfl⟩ := List.mem_map.mp hx
    obtain ⟨b, _, rfl⟩ := List.mem_map.mp hy
    rfl
  have h3 : (l.map D.int).all D.noN = true := by
    rw [List.all_eq_true]
    intro x hx
    obtain ⟨a, _, rfl⟩ := List.mem_map.mp hx
    rfl
  have h4 : Nat.ble (PyData.depthAll (D.toPs (l.map D.int))) 60 = true := by
    apply Nat.ble_eq_true_of_le
    rw [toPs_map]
    exact Nat.le_trans (depth_map _ 0 (fun a => by simp [D.toP, PyData.depth]) l) (by omega)
  have h5 : sbl (l.map D.int) = true := by
    unfold sbl
    rw [Bool.or_eq_true]
    right
    rw [List.all_eq_true]
    intro x hx
    obtain ⟨a, _, rfl⟩ := List.mem_map.mp hx
    rfl
  unfold ordL
  rw [noObjs_ints, h2, h3, h4, h5]
  rfl
theorem srt_of {M : Mem} {d : D} {l : List Int} (h : seqD M d = some (l.map D.int)) : srtD [d] M = .ok (.lst ((srtI l).map D.int)) M := by
  simp only [srtD, h, ord_int, if_true, srtL_int]
theorem min_int (a b : Nat) (M : Mem) : minLD [.int a, .int b] M = .ok (.int ((min a b : Nat) : Int)) M := by
  rw [min_two]
  simp only [min2D]
  congr 2
  split <;> omega
end K49

namespace K49
open PySem L2 RI
/-! the law's own search, step by step -/
def mL (A : Mem) (L later : PD) : Mem := A ++ [.dct true (dE L), .dct false (dE later)]
theorem mL_k (A : Mem) (L later : PD) : (mL A L later)[A.length]? = some (.dct true (dE L)) := by
  unfold mL; rw [List.getElem?_append_right (Nat.le_refl _)]; simp
theorem mL_l (A : Mem) (L later : PD) : (mL A L later)[A.length + 1]? = some (.dct false (dE later)) := by
  unfold mL; rw [List.getElem?_append_right (by omega)]; simp
theorem mL_set (A : Mem) (L later l' : PD) : (mL A L later).set (A.length + 1) (.dct false (dE l')) = mL A L l' := by
  unfold mL; rw [List.set_append_right _ _ (by omega)]; simp
theorem ix_known {A : Mem} {L later : PD} {k : List Int} {v : Nat} (h : pget k L = some v) : ixD (.obj A.length) (tI k) (mL A L later) = .ok (.int v) (mL A L later) := by
  have h1 : dctD (mL A L later) (.obj A.length) = some (dE L) := by simp only [dctD, mL_k]
  simp only [ixD, h1, ixK, tI_key, if_true, dget_dE, h, Option.map_some]
theorem get_later (A : Mem) (L later : PD) (k : List Int) (c : Nat) : isDctD (mL A L later) (.obj (A.length + 1)) = true ∧ getD2 (.obj (A.length + 1)) (tI k) (.int c) (mL A L later) = .ok (.int (((pget k later).getD c : Nat) : Int)) (mL A L later) := by
  have h1 : dctD (mL A L later) (.obj (A.length + 1)) = some (dE later) := by simp only [dctD, mL_l]
  refine ⟨by simp [isDctD, h1], ?_⟩
  simp only [getD2, h1, tI_key, if_true, dget_dE]
  cases pget k later <;> rfl
theorem set_later (A : Mem) (L : PD) {later : PD} (g : GoodL later) (k : List Int) (v : Nat) : setD (.obj (A.length + 1)) (tI k) (.int v) (mL A L later) = .ok () (mL A L (pset k v later)) := by
  rw [setD_K (mL_l A L later)]
  have hz : Nat.ble (dE later).length 16777215 = true := by
    apply Nat.ble_eq_true_of_le
    have := g.few
    simp only [dE, List.length_map]
    omega
  have hb : D.bel (A.length + 1) (.int (v : Int)) = true := rfl
  simp only [setK, tI_key, hb, hz, Bool.and_self, if_true, dset_dE, mL_set]
def put (c : Nat) (later : PD) (way : List Int) : PD := pset way (min c ((pget way later).getD c)) later
def cost (L : PD) (p : Int) (row : List Int) : Nat := (pget row L).getD 0 + (if p ∈ row then 0 else 1)
theorem ways_loop (F : FT) (A : Mem) (L : PD) (fr us w6 : Option D) (p : Int) (row : List Int) (v : Nat) (hv : pget row L = some v) : ∀ (ws : List (List Int)) (later : PD) (x7 x8 : Option D), GoodL later → (∀ w ∈ ws, okRow w) →
    ∃ x7' x8', forG none fg_21_2 fb_21_2 F (ws.map tI) [fr, us, some (.obj A.length), some (.int p), some (.obj (A.length + 1)), some (tI row), w6, x7, x8, none, none] (mL A L later)
      = .ok (.next [fr, us, some (.obj A.length), some (.int p), some (.obj (A.length + 1)), some (tI row), w6, x7', x8', none, none]) (mL A L (ws.foldl (put (cost L p row)) later)) ∧ GoodL (ws.foldl (put (cost L p row)) later)
  | [], later, x7, x8, g, _ => ⟨x7, x8, rfl, g⟩
  | w :: ws, later, x7, x8, g, hw => by
    have g' : GoodL (put (cost L p row) later w) := g.put (hw w List.mem_cons_self) _
    obtain ⟨x7', x8', ih, g2⟩ := ways_loop F A L fr us w6 p row v hv ws (put (cost L p row) later w) (some (tI w)) (some (.int (cost L p row : Nat))) g' (fun z hz => hw z (List.mem_cons_of_mem _ hz))
    refine ⟨x7', x8', ?_, g2⟩
    rw [List.foldl_cons, ← ih]
    have hin := in_ints true p row (mL A L later) (d := tI row) rfl
    have hk := ix_known (A := A) (later := later) hv
    have ek : ∀ b : Bool, toIntD [.bl b] (mL A L later) = .ok (.int (if b then 1 else 0)) (mL A L later) := fun b => by cases b <;> rfl
    obtain ⟨gd1, gd2⟩ := get_later A L later w (cost L p row)
    have hmin := min_int (cost L p row) ((pget w later).getD (cost L p row)) (mL A L later)
    rw [min_two] at hmin
    have hset := set_later A L g w (min (cost L p row) ((pget w later).getD (cost L p row)))
    have hc : (v : Int) + (if p ∈ row then 0 else 1) = (cost L p row : Nat) := by
      unfold cost
      rw [hv]
      split <;> simp
    by_cases hp : p ∈ row
    · rw [if_pos hp] at hc
      simp only [Int.add_zero] at hc
      simp [forG, fg_21_2, fb_21_2, hk, hin, hp, ek, hc, gd1, gd2]
      rw [hmin]
      simp only [Res.noX, Res.toS, Res.bind_ok, hset]
      rfl
    · rw [if_neg hp] at hc
      simp [forG, fg_21_2, fb_21_2, hk, hin, hp, ek, hc, gd1, gd2]
      rw [hmin]
      simp only [Res.noX, Res.toS, Res.bind_ok, hset]
      rfl
end K49

namespace K49
open PySem L2 RI
def ways (fr : Nat) (row : List Int) (p : Int) : List (List Int) :=
  if p ∈ row then [row] else if row.length = fr then row.map fun o => srtI (row.filter (fun x => decide (x ≠ o)) ++ [p]) else [srtI (row ++ [p])]
theorem filter_lt {row : List Int} {i : Int} (hi : i ∈ row) : (row.filter fun x => decide (x ≠ i)).length < row.length := by
  rw [← List.countP_eq_length_filter]
  refine Nat.lt_of_le_of_ne List.countP_le_length fun e => ?_
  have := List.countP_eq_length.mp e i hi
  simp at this
theorem ways_ok {fr : Nat} (h4 : fr ≤ 4) {row : List Int} {p : Int} (hr : okRow row) (hl : row.length ≤ fr) (hp : 0 ≤ p ∧ p ≤ 4) : ∀ w ∈ ways fr row p, okRow w := by
  intro w hw
  unfold ways at hw
  split at hw
  · simp at hw; subst hw; exact hr
  · split at hw
    · obtain ⟨o, ho, rfl⟩ := List.mem_map.mp hw
      have hpm := srtI_perm (row.filter (fun x => decide (x ≠ o)) ++ [p])
      constructor
      · rw [hpm.length_eq]
        have := filter_lt ho
        simp only [List.length_append, List.length_cons, List.length_nil]
        omega
      · intro x hx
        have := hpm.mem_iff.mp hx
        rcases List.mem_append.mp this with q | q
        · exact hr.2 x (List.mem_filter.mp q).1
        · simp at q; subst q; exact hp
    · rename_i hf
      simp at hw; subst hw
      have hpm := srtI_perm (row ++ [p])
      constructor
      · rw [hpm.length_eq]
        simp only [List.length_append, List.length_cons, List.length_nil]
        omega
      · intro x hx
        have := hpm.mem_iff.mp hx
        rcases List.mem_append.mp this with q | q
        · exact hr.2 x q
        · simp at q; subst q; exact hp
theorem lc_21_0 (F : FT) (a b c d e f g h i : Option D) (o : Int) (l : List Int) (M : Mem) : lcG none lg_21_0 lt_21_0 le_21_0 F [a, b, c, d, e, f, g, h, i, some (.int o), none] (l.map D.int) M = .ok ((l.filter (fun x => decide (x ≠ o))).map D.int) M := by
  refine lc_ok rfl (fun x => decide (x ≠ o)) D.int l fun x _ => ⟨_, rfl, ?_, fun _ => rfl⟩
  simp [lt_21_0]
theorem lc_21_1 (F : FT) (a b c e g h i : Option D) (p : Int) (row : List Int) (hl : row.length ≤ 4) (l : List Int) (hs : ∀ o ∈ l, o ∈ row) (M : Mem) : lcG none lg_21_1 lt_21_1 le_21_1 F [a, b, c, some (.int p), e, some (tI row), g, h, i, none, none] (l.map D.int) M = .ok (l.map fun o => tI (srtI (row.filter (fun x => decide (x ≠ o)) ++ [p]))) M := by
  refine lc_all rfl (fun o => tI (srtI (row.filter (fun x => decide (x ≠ o)) ++ [p]))) l fun o ho => ⟨[a, b, c, some (.int p), e, some (tI row), g, h, i, some (.int o), none], rfl, ?_⟩
  have hlc := lc_21_0 F a b c (some (.int p)) e (some (tI row)) g h i o row M
  have hf := filter_lt (hs o ho)
  have z1 : (row.filter fun x => decide (x ≠ o)).length + 1 ≤ 16777216 := by omega
  have z3 : row.length ≤ 16777216 := by omega
  have ha : addD (.lst ((row.filter (fun x => decide (x ≠ o))).map D.int)) (.lst [.int p]) M = .ok (.lst ((row.filter (fun x => decide (x ≠ o)) ++ [p]).map D.int)) M := by
    rw [add_lst (by simp only [List.length_map, List.length_cons, List.length_nil]; exact z1)]
    simp
  have hsr := srt_of (M := M) (d := .lst ((row.filter (fun x => decide (x ≠ o)) ++ [p]).map D.int)) rfl
  have ht : toTupD [.lst ((srtI (row.filter (fun x => decide (x ≠ o)) ++ [p])).map D.int)] M = .ok (tI (srtI (row.filter (fun x => decide (x ≠ o)) ++ [p]))) M := tup_of rfl
  unfold le_21_1
  simp only [ap_bl, ap_cons, ap_nil, ap_B, ap_lc, ap_seqI, ap_var, List.getElem?_cons_succ, List.getElem?_cons_zero, Res.bind_ok, wipeE, List.set_cons_succ, List.set_cons_zero]
  simp only [List.length_map, LIM, z3, if_true, hlc, Res.noX, Res.bind_ok, ap_lst, ap_cons, ap_nil, ap_var, List.getElem?_cons_succ, List.getElem?_cons_zero, List.length_cons, List.length_nil, Nat.zero_add, show (1 : Nat) ≤ 16777216 by omega, ha, hsr, ht]
theorem rows_loop (F : FT) (A : Mem) (L : PD) (fr : Nat) (h4 : fr ≤ 4) (us : Option D) (p : Int) (hp : 0 ≤ p ∧ p ≤ 4) : ∀ (rows : List (List Int)) (later : PD) (x5 x6 x7 x8 : Option D), GoodL later → (∀ row ∈ rows, (∃ v, pget row L = some v) ∧ okRow row ∧ row.length ≤ fr) →
    ∃ x5' x6' x7' x8', forG none fg_21_3 fb_21_3 F (rows.map tI) [some (.int fr), us, some (.obj A.length), some (.int p), some (.obj (A.length + 1)), x5, x6, x7, x8, none, none] (mL A L later)
      = .ok (.next [some (.int fr), us, some (.obj A.length), some (.int p), some (.obj (A.length + 1)), x5', x6', x7', x8', none, none]) (mL A L (rows.foldl (fun l row => (ways fr row p).foldl (put (cost L p row)) l) later)) ∧ GoodL (rows.foldl (fun l row => (ways fr row p).foldl (put (cost L p row)) l) later)
  | [], later, x5, x6, x7, x8, g, _ => ⟨x5, x6, x7, x8, rfl, g⟩
  | row :: rows, later, x5, x6, x7, x8, g, hw => by
    obtain ⟨⟨v, hv⟩, hok, hlr⟩ := hw row List.mem_cons_self
    obtain ⟨x7', x8', e, g'⟩ := ways_loop F A L (some (.int fr)) us (some (.lst ((ways fr row p).map tI))) p row v hv (ways fr row p) later x7 x8 g (ways_ok h4 hok hlr hp)
    obtain ⟨y5, y6, y7, y8, ih, g2⟩ := rows_loop F A L fr h4 us p hp rows ((ways fr row p).foldl (put (cost L p row)) later) (some (tI row)) (some (.lst ((ways fr row p).map tI))) x7' x8' g' (fun z hz => hw z (List.mem_cons_of_mem _ hz))
    refine ⟨y5, y6, y7, y8, ?_, g2⟩
    rw [List.foldl_cons, ← ih]
    have hin := in_ints true p row (mL A L later) (d := tI row) rfl
    have hlen := len_of (M := mL A L later) (d := tI row) rfl
    have hrow : row.length ≤ 4 := hok.1
    have z3 : row.length ≤ 16777216 := by omega
    have key : ((fg_21_3 F (tI row) [some (.int fr), us, some (.obj A.length), some (.int p), some (.obj (A.length + 1)), x5, x6, x7, x8, none, none] (mL A L later)).bind fun r1 M1 => fb_21_3 F r1 M1)
        = (mFor (mSeqI (mVar 6)) fg_21_2 fb_21_2) F [some (.int fr), us, some (.obj A.length), some (.int p), some (.obj (A.length + 1)), some (tI row), some (.lst ((ways fr row p).map tI)), x7, x8, none, none] (mL A L later) := by
      by_cases hm : p ∈ row
      · simp [fg_21_3, fb_21_3, hin, hm, ways, LIM]
      · have ha : addD (tI row) (.tup [.int p]) (mL A L later) = .ok (tI (row ++ [p])) (mL A L later) := by
          rw [add_tup (by simp only [List.length_map, List.length_cons, List.length_nil]; show _ ≤ 16777216; omega)]
          simp [tI]
        have hsr := srt_of (M := mL A L later) (d := tI (row ++ [p])) rfl
        have ht : toTupD [.lst ((srtI (row ++ [p])).map D.int)] (mL A L later) = .ok (tI (srtI (row ++ [p]))) (mL A L later) := tup_of rfl
        by_cases hf : row.length = fr
        · have hf' : (row.length : Int) = fr := by omega
          have hlc := lc_21_1 F (some (.int fr)) us (some (.obj A.length)) (some (.obj (A.length + 1))) (some (.lst [tI (srtI (row ++ [p]))])) x7 x8 p row hrow row (fun _ h => h) (mL A L later)
          have hwy : (ways fr row p).map tI = row.map fun o => tI (srtI (row.filter (fun x => decide (x ≠ o)) ++ [p])) := by
            unfold ways
            rw [if_neg hm, if_pos hf, List.map_map]
            rfl
          rw [hwy]
          simp only [fg_21_3, fb_21_3, ap_gN, Res.bind_ok, ap_seq, ap_asg, ap_lst, ap_cons, ap_nil, ap_var, List.set_cons_succ, List.set_cons_zero, List.getElem?_cons_succ, List.getElem?_cons_zero, List.length_cons, List.length_nil, Nat.zero_add, LIM, show (1 : Nat) ≤ 16777216 by omega, if_true, Res.toS_ok, ap_ifS, ap_TB, ap_B, hin, Res.noX, hm, decide_false, Bool.not_false, ap_bl, ap_tup, ha, hsr, ht, hlen, List.length_map, hf', eq_ii, decide_true, Bool.false_eq_true, if_false, ap_lc, ap_seqI, z3, wipeE, hlc]
        · have hf' : ¬ (row.length : Int) = fr := by omega
          have hwy : (ways fr row p).map tI = [tI (srtI (row ++ [p]))] := by
            unfold ways
            rw [if_neg hm, if_neg hf]
            rfl
          rw [hwy]
          simp only [fg_21_3, fb_21_3, ap_gN, Res.bind_ok, ap_seq, ap_asg, ap_lst, ap_cons, ap_nil, ap_var, List.set_cons_succ, List.set_cons_zero, List.getElem?_cons_succ, List.getElem?_cons_zero, List.length_cons, List.length_nil, Nat.zero_add, LIM, show (1 : Nat) ≤ 16777216 by omega, if_true, Res.toS_ok, ap_ifS, ap_TB, ap_B, hin, Res.noX, hm, decide_false, Bool.not_false, ap_bl, ap_tup, ha, hsr, ht, hlen, List.length_map, hf', eq_ii, Bool.false_eq_true, if_false, ap_skip]
    have e' : (mFor (mSeqI (mVar 6)) fg_21_2 fb_21_2) F [some (.int fr), us, some (.obj A.length), some (.int p), some (.obj (A.length + 1)), some (tI row), some (.lst ((ways fr row p).map tI)), x7, x8, none, none] (mL A L later) = .ok (.next [some (.int fr), us, some (.obj A.length), some (.int p), some (.obj (A.length + 1)), some (tI row), some (.lst ((ways fr row p).map tI)), x7', x8', none, none]) (mL A L ((ways fr row p).foldl (put (cost L p row)) later)) := by
      rw [← e]
      simp
    rw [List.map_cons]
    simp only [forG, gd_none, if_true]
    rw [e'] at key
    cases eg : fg_21_3 F (tI row) [some (.int fr), us, some (.obj A.length), some (.int p), some (.obj (A.length + 1)), x5, x6, x7, x8, none, none] (mL A L later) with
    | ok r1 M1 =>
      rw [eg] at key
      simp only [Res.bind_ok] at key ⊢
      rw [key]
      rfl
    | bad => rw [eg] at key; cases key
    | exc x M1 => rw [eg] at key; cases key
end K49

namespace K49
open PySem L2 RI
/-! the law's own search finds the least -/
def J (later : PD) (S : List Int → Nat → Prop) : Prop := (∀ k v, pget k later = some v → S k v) ∧ ∀ k c, S k c → ∃ v, pget k later = some v ∧ v ≤ c
theorem J.imp {later : PD} {S S' : List Int → Nat → Prop} (h : J later S) (e : ∀ k v, S k v ↔ S' k v) : J later S' := ⟨fun k v q => (e k v).mp (h.1 k v q), fun k c q => h.2 k c ((e k c).mpr q)⟩
theorem J.put {later : PD} {S : List Int → Nat → Prop} (h : J later S) (c : Nat) (way : List Int) : J (put c later way) (fun k v => S k v ∨ (k = way ∧ v = c)) := by
  unfold K49.put
  constructor
  · intro k v hv
    rw [pget_pset] at hv
    split at hv
    · rename_i e
      subst e
      cases hv
      cases e : pget k later with
      | none => exact .inr ⟨rfl, by simp⟩
      | some o =>
        rcases Nat.le_total c o with q | q
        · exact .inr ⟨rfl, by simp [Nat.min_eq_left q]⟩
        · exact .inl (by simp only [Option.getD_some, Nat.min_eq_right q]; exact h.1 k o e)
    · exact .inl (h.1 k v hv)
  · intro k c' hs
    rw [pget_pset]
    by_cases e : k = way
    · subst e
      rw [if_pos rfl]
      refine ⟨_, rfl, ?_⟩
      rcases hs with hs | ⟨_, rfl⟩
      · obtain ⟨o, ho, hoc⟩ := h.2 k c' hs
        simp only [ho, Option.getD_some]
        omega
      · omega
    · rw [if_neg e]
      rcases hs with hs | ⟨q, _⟩
      · exact h.2 k c' hs
      · exact absurd q e
theorem J.ways {c : Nat} : ∀ (ws : List (List Int)) {later : PD} {S : List Int → Nat → Prop}, J later S → J (ws.foldl (K49.put c) later) (fun k v => S k v ∨ (k ∈ ws ∧ v = c))
  | [], later, S, h => h.imp (by simp)
  | w :: ws, later, S, h => by
    have := J.ways (c := c) ws (h.put c w)
    refine this.imp fun k v => ?_
    simp only [List.mem_cons]
    constructor
    · rintro ((q | ⟨q, r⟩) | ⟨q, r⟩)
      · exact .inl q
      · exact .inr ⟨.inl q, r⟩
      · exact .inr ⟨.inr q, r⟩
    · rintro (q | ⟨q | q, r⟩)
      · exact .inl (.inl q)
      · exact .inl (.inr ⟨q, r⟩)
      · exact .inr ⟨q, r⟩
theorem J.rows {fr : Nat} {L : PD} {p : Int} : ∀ (rows : List (List Int)) {later : PD} {S : List Int → Nat → Prop}, J later S → J (rows.foldl (fun l row => (K49.ways fr row p).foldl (K49.put (cost L p row)) l) later) (fun k v => S k v ∨ ∃ row ∈ rows, k ∈ K49.ways fr row p ∧ v = cost L p row)
  | [], later, S, h => h.imp (by simp)
  | r :: rows, later, S, h => by
    have := J.rows (fr := fr) (L := L) (p := p) rows (J.ways (c := cost L p r) (K49.ways fr r p) h)
    refine this.imp fun k v => ?_
    simp only [List.mem_cons]
    constructor
    · rintro ((q | ⟨q, e⟩) | ⟨row, q, e⟩)
      · exact .inl q
      · exact .inr ⟨r, .inl rfl, q, e⟩
      · exact .inr ⟨row, .inr q, e⟩
    · rintro (q | ⟨row, rfl | q, e⟩)
      · exact .inl (.inl q)
      · exact .inl (.inr e)
      · exact .inr ⟨row, q, e⟩
def stepP (fr : Nat) (L : PD) (p : Int) : PD := (L.map (·.1)).foldl (fun l row => (ways fr row p).foldl (put (cost L p row)) l) []
structure Kn (f : Nat) (us : List Int) (L : PD) : Prop where
  sound : ∀ k v, pget k L = some v → PG.Run f [] us k v
  comp : ∀ e m, PG.Run f [] us e m → ∃ k v, pget k L = some v ∧ k.Perm e ∧ v ≤ m
  good : GoodL L
theorem run_end {f : Nat} {l us e : List Int} {n : Nat} (h : PG.Run f l us e n) : l.Nodup → l.length ≤ f → e.Nodup ∧ e.length ≤ f ∧ ∀ x ∈ e, x ∈ l ∨ x ∈ us := by
  induction h with
  | nil h => exact fun nd hl => ⟨h.nodup_iff.mp nd, by rw [← h.length_eq]; exact hl, fun x hx => .inl (h.mem_iff.mpr hx)⟩
  | hit hp h ih =>
    intro nd hl
    obtain ⟨a, b, c⟩ := ih nd hl
    exact ⟨a, b, fun x hx => (c x hx).imp id (List.mem_cons_of_mem _)⟩
  | add hp hl' h ih =>
    intro nd hl
    obtain ⟨a, b, c⟩ := ih (List.nodup_cons.mpr ⟨hp, nd⟩) (by simp only [List.length_cons]; omega)
    refine ⟨a, b, fun x hx => ?_⟩
    rcases c x hx with q | q
    · rcases List.mem_cons.mp q with q | q
      · exact .inr (by simp [q])
      · exact .inl q
    · exact .inr (List.mem_cons_of_mem _ q)
  | @out l us e r p c n hp hl' hr h ih =>
    intro nd hl
    have nd2 := hr.nodup_iff.mp nd
    have hpr : p ∉ r := fun q => hp (hr.mem_iff.mpr (List.mem_cons_of_mem _ q))
    obtain ⟨a, b, c⟩ := ih (List.nodup_cons.mpr ⟨hpr, (List.nodup_cons.mp nd2).2⟩) (by have := hr.length_eq; simp only [List.length_cons] at this ⊢; omega)
    refine ⟨a, b, fun x hx => ?_⟩
    rcases c x hx with q | q
    · rcases List.mem_cons.mp q with q | q
      · exact .inr (by simp [q])
      · exact .inl (hr.mem_iff.mpr (List.mem_cons_of_mem _ q))
    · exact .inr (List.mem_cons_of_mem _ q)
theorem run_split {f : Nat} {vs : List Int} : ∀ {us l e : List Int} {m : Nat}, PG.Run f l (us ++ vs) e m → ∃ e0 m0 m1, PG.Run f l us e0 m0 ∧ PG.Run f e0 vs e m1 ∧ m = m0 + m1
  | [], l, e, m, h => ⟨l, 0, m, .nil (List.Perm.refl _), h, by omega⟩
  | u :: us, l, e, m, h => by
    cases h with
    | hit hp h =>
      obtain ⟨e0, m0, m1, a, b, c⟩ := run_split (us := us) h
      exact ⟨e0, m0, m1, .hit hp a, b, c⟩
    | add hp hl h =>
      obtain ⟨e0, m0, m1, a, b, c⟩ := run_split (us := us) h
      exact ⟨e0, m0 + 1, m1, .add hp hl a, b, by omega⟩
    | out hp hl hr h =>
      obtain ⟨e0, m0, m1, a, b, c⟩ := run_split (us := us) h
      exact ⟨e0, m0 + 1, m1, .out hp hl hr a, b, by omega⟩
theorem Kn.row {f : Nat} {us : List Int} {L : PD} (h : Kn f us L) {k : List Int} (hk : k ∈ L.map (·.1)) : ∃ v, pget k L = some v ∧ PG.Run f [] us k v ∧ k.Nodup ∧ k.length ≤ f := by
  obtain ⟨v, hv⟩ := pget_some hk
  have r := h.sound k v hv
  obtain ⟨a, b, _⟩ := run_end r List.nodup_nil (Nat.zero_le _)
  exact ⟨v, hv, r, a, b⟩
theorem kn_step {f : Nat} {us : List Int} {L : PD} (h : Kn f us L) (p : Int) (g : GoodL (stepP f L p)) : Kn f (us ++ [p]) (stepP f L p) := by
  have j := J.rows (fr := f) (L := L) (p := p) (L.map (·.1)) (later := []) (S := fun _ _ => False) ⟨fun k v q => by simp [pget] at q, fun _ _ q => q.elim⟩
  refine ⟨fun k v hv => ?_, fun e m hr => ?_, g⟩
  · rcases j.1 k v hv with q | ⟨row, hrow, hk, rfl⟩
    · exact q.elim
    obtain ⟨w, hw, r, nd, hl⟩ := h.row hrow
    have hc : cost L p row = w + (if p ∈ row then 0 else 1) := by simp [cost, hw]
    rw [hc]
    refine r.app ?_
    unfold ways at hk
    split at hk
    · rename_i hp
      simp at hk; subst hk
      rw [if_pos hp]
      exact .hit hp (.nil (List.Perm.refl _))
    · rename_i hp
      rw [if_neg hp]
      split at hk
      · rename_i hf
        obtain ⟨o, ho, rfl⟩ := List.mem_map.mp hk
        exact .out hp hf (out_perm nd ho) (.nil ((PG.snoc _ _).symm.trans (srtI_perm _).symm))
      · rename_i hf
        simp at hk; subst hk
        exact .add hp (by omega) (.nil ((PG.snoc _ _).symm.trans (srtI_perm _).symm))
  · obtain ⟨e0, m0, m1, r0, r1, rfl⟩ := run_split hr
    obtain ⟨row, w, hw, hpm, hle⟩ := h.comp e0 m0 r0
    have hrow := pget_key hw
    obtain ⟨_, _, _, nd, hl⟩ := h.row hrow
    have r1 := r1.perm hpm.symm
    have hc : cost L p row = w + (if p ∈ row then 0 else 1) := by simp [cost, hw]
    have fin : ∀ k, k ∈ ways f row p → k.Perm e → (if p ∈ row then 0 else 1) ≤ m1 → ∃ k v, pget k (stepP f L p) = some v ∧ k.Perm e ∧ v ≤ m0 + m1 := by
      intro k hk hke hm
      obtain ⟨v, hv, hvc⟩ := j.2 k (cost L p row) (.inr ⟨row, hrow, hk, rfl⟩)
      exact ⟨k, v, hv, hke, by omega⟩
    cases r1 with
    | hit hp r =>
      cases r with
      | nil hn => exact fin row (by simp [ways, hp]) hn (by rw [if_pos hp]; omega)
    | add hp hl' r =>
      cases r with
      | nil hn => exact fin (srtI (row ++ [p])) (by rw [ways, if_neg hp, if_neg (by omega)]; simp) ((srtI_perm _).trans ((PG.snoc _ _).trans hn)) (by rw [if_neg hp]; omega)
    | @out _ _ _ r' _ c _ hp hl' hr' r =>
      cases r with
      | nil hn =>
        have hcm : c ∈ row := hr'.mem_iff.mpr List.mem_cons_self
        have h1 : (row.filter (fun x => decide (x ≠ c))).Perm r' := (List.perm_cons c).mp ((out_perm nd hcm).symm.trans hr')
        exact fin (srtI (row.filter (fun x => decide (x ≠ c)) ++ [p])) (by
          rw [ways, if_neg hp, if_pos hl']
          exact List.mem_map.mpr ⟨c, hcm, rfl⟩) ((srtI_perm _).trans ((PG.snoc _ _).trans ((h1.cons p).trans hn))) (by rw [if_neg hp]; omega)
theorem kn0 (f : Nat) : Kn f [] [([], 0)] := by
  refine ⟨fun k v h => ?_, fun e m h => ?_, ⟨by simp, ?_⟩⟩
  · simp only [pget] at h
    split at h
    · rename_i e
      cases h
      subst e
      exact .nil (List.Perm.refl _)
    · cases h
  · cases h with
    | nil h => exact ⟨[], 0, rfl, h, Nat.le_refl _⟩
  · intro k hk
    simp at hk
    subst hk
    exact ⟨by simp, by simp⟩
/-! the page loop -/
theorem pages_loop (F : FT) (fr : Nat) (h4 : fr ≤ 4) (us : Option D) : ∀ (ps done : List Int) (A : Mem) (L : PD) (x3 x4 x5 x6 x7 x8 : Option D), Kn fr done L → (∀ p ∈ done ++ ps, 0 ≤ p ∧ p ≤ 4) →
    ∃ X L' y3 y4 y5 y6 y7 y8, forG none fg_21_4 fb_21_4 F (ps.map D.int) [some (.int fr), us, some (.obj A.length), x3, x4, x5, x6, x7, x8, none, none] (A ++ [.dct false (dE L)])
      = .ok (.next [some (.int fr), us, some (.obj (A ++ X).length), y3, y4, y5, y6, y7, y8, none, none]) ((A ++ X) ++ [.dct false (dE L')]) ∧ Kn fr (done ++ ps) L'
  | [], done, A, L, x3, x4, x5, x6, x7, x8, k, _ => ⟨[], L, x3, x4, x5, x6, x7, x8, by simp [forG], by simpa using k⟩
  | p :: ps, done, A, L, x3, x4, x5, x6, x7, x8, k, hb => by
    have hp : 0 ≤ p ∧ p ≤ 4 := hb p (by simp)
    obtain ⟨y5, y6, y7, y8, e, g⟩ := rows_loop F A L fr h4 us p hp (L.map (·.1)) [] x5 x6 x7 x8 ⟨by simp, by simp⟩ (fun row hr => by
      obtain ⟨v, h1, h2, h3, h4'⟩ := k.row hr
      exact ⟨⟨v, h1⟩, k.good.ok row hr, h4'⟩)
    have kn := kn_step k p g
    obtain ⟨X, L', z3, z4, z5, z6, z7, z8, ih, kn'⟩ := pages_loop F fr h4 us ps (done ++ [p]) (A ++ [.dct true (dE L)]) (stepP fr L p) (some (.int p)) (some (.obj (A.length + 1))) y5 y6 y7 y8 kn (by simpa using hb)
    refine ⟨.dct true (dE L) :: X, L', z3, z4, z5, z6, z7, z8, ?_, by simpa using kn'⟩
    have hA : (A ++ [.dct true (dE L)] : Mem).length = A.length + 1 := by simp
    rw [hA] at ih
    have hm : (A ++ [.dct true (dE L)]) ++ [.dct false (dE (stepP fr L p))] = mL A L (stepP fr L p) := by simp [mL]
    rw [hm] at ih
    have e1 : (A ++ .dct true (dE L) :: X) = (A ++ [.dct true (dE L)]) ++ X := by simp
    rw [e1, ← ih]
    have hk : (dE L).map (·.1) = (L.map (·.1)).map tI := by simp [dE]
    have hget : ((A ++ [.dct false (dE L)]) ++ [.dct false []] : Mem)[A.length]? = some (.dct false (dE L)) := by
      rw [List.append_assoc, List.getElem?_append_right (Nat.le_refl _)]; simp
    have hset : ((A ++ [.dct false (dE L)]) ++ [.dct false []] : Mem).set A.length (.dct true (dE L)) = mL A L [] := by
      rw [List.append_assoc, List.set_append_right _ _ (Nat.le_refl _)]; simp [mL, dE]
    have hseq : ∀ r : EV, r[2]? = some (some (.obj A.length)) → mSeqK (mVar 2) F r ((A ++ [.dct false (dE L)]) ++ [.dct false []]) = .ok ((L.map (·.1)).map tI, none) (mL A L []) := by
      intro r hr
      unfold mSeqK
      simp only [ap_var, hr, Res.bind_ok, hget, hset, hk]
    rw [List.map_cons]
    simp only [forG, gd_none, if_true, fg_21_4, ap_gN, Res.bind_ok, List.set_cons_succ, List.set_cons_zero]
    rw [show fb_21_4 = (mSeq (mAsg mDct0 (gN 4)) (mSeq (mFor (mSeqK (mVar 2)) fg_21_3 fb_21_3) (mAsg (mVar 4) (gN 2)))) from rfl]
    simp only [ap_seq, ap_asg, ap_dct0, Res.toS_ok, ap_gN, Res.bind_ok, List.set_cons_succ, List.set_cons_zero, List.length_append, List.length_cons, List.length_nil, Nat.zero_add, ap_for]
    rw [hseq _ rfl]
    simp only [Res.toS_ok]
    rw [e]
    simp only [Res.bind_ok, ap_var, List.getElem?_cons_succ, List.getElem?_cons_zero, Res.toS_ok, List.set_cons_succ, List.set_cons_zero]
    rfl
/-! the least of numbers -/
theorem lt_int (a b : Nat) : ltDD (.int a) (.int b) = decide (a < b) := by
  unfold ltDD
  simp only [D.toP]
  show PySem.W.dataLt (.int a) (.int b) = _
  show klt (PySem.W.keyToks (.int (a : Int))) (PySem.W.keyToks (.int (b : Int))) = _
  simp only [PySem.W.keyToks, klt_same, klt_ii, klt_self]
  by_cases h : a < b <;> simp [h]
theorem min_nat : ∀ (l : List Nat) (x : Nat), ∃ c, c ∈ x :: l ∧ (∀ y ∈ x :: l, c ≤ y) ∧ minL (.int x) (l.map fun n => .int (n : Nat)) = .int c
  | [], x => ⟨x, by simp, by simp, rfl⟩
  | y :: l, x => by
    simp only [minL, List.map_cons, List.foldl_cons, lt_int]
    by_cases h : y < x
    · obtain ⟨c, h1, h2, h3⟩ := min_nat l y
      refine ⟨c, List.mem_cons_of_mem _ h1, fun z hz => ?_, by simpa [h, minL] using h3⟩
      rcases List.mem_cons.mp hz with rfl | hz
      · have := h2 y List.mem_cons_self; omega
      · exact h2 z hz
    · obtain ⟨c, h1, h2, h3⟩ := min_nat l x
      refine ⟨c, ?_, fun z hz => ?_, by simpa [h, minL] using h3⟩
      · rcases List.mem_cons.mp h1 with q | q <;> simp [q]
      · rcases List.mem_cons.mp hz with rfl | hz
        · exact h2 z List.mem_cons_self
        rcases List.mem_cons.mp hz with rfl | hz
        · have := h2 x List.mem_cons_self; omega
        · exact h2 z (List.mem_cons_of_mem _ hz)
end K49

namespace K49
open PySem L2 RI
theorem ord_nat (l : List Nat) : ordL (l.map fun n => D.int (n : Nat)) = true := by
  have := ord_int (l.map fun n : Nat => (n : Int))
  rw [List.map_map, Bool.and_eq_true] at this
  exact this.1
theorem min_row (l : List Nat) (hl : l ≠ []) (M : Mem) : ∃ c, c ∈ l ∧ (∀ y ∈ l, c ≤ y) ∧ minLD [.lst (l.map fun n => .int (n : Nat))] M = .ok (.int (c : Nat)) M := by
  cases l with
  | nil => exact absurd rfl hl
  | cons x l =>
    obtain ⟨c, h1, h2, h3⟩ := min_nat l x
    refine ⟨c, h1, h2, ?_⟩
    have := ord_nat (x :: l)
    simp only [List.map_cons] at this ⊢
    simp only [minLD, lstD_lst, this, if_true, h3]
theorem law_least (n fr : Nat) (h4 : fr ≤ 4) (us : List Int) (hu : ∀ u ∈ us, 0 ≤ u ∧ u ≤ 4) {e : List Int} {m : Nat} (hf : PG.Far fr [] us e m) (M : Mem) : callF tb (n + 1) 21 [.int fr, .tup (us.map D.int)] M = .ok (.int (m : Nat)) M := by
  rw [u_21]
  obtain ⟨X, L, y3, y4, y5, y6, y7, y8, lp, kn⟩ := pages_loop (callF tb n) fr h4 (some (.tup (us.map D.int))) us [] M [([], 0)] none none none none none none (kn0 fr) (by simpa using hu)
  rw [List.nil_append] at kn
  have hne : L.map (·.1) ≠ [] := by
    obtain ⟨k, v, hv, _⟩ := kn.comp e m hf.run
    intro z
    have := pget_key hv
    rw [z] at this
    cases this
  have hsq : ∀ r : EV, r[2]? = some (some (.obj (M ++ X).length)) → mSeqK (mVar 2) (callF tb n) r ((M ++ X) ++ [.dct false (dE L)]) = .ok ((L.map (·.1)).map tI, none) ((M ++ X) ++ [.dct true (dE L)]) := by
    intro r hr
    unfold mSeqK
    have hk : (dE L).map (·.1) = (L.map (·.1)).map tI := by simp [dE]
    simp only [ap_var, hr, Res.bind_ok, get_last, set_last, hk]
  have hlc := lc_all (g := lg_21_5) (me := le_21_5) (F := callF tb n) (gd := none) (M := (M ++ X) ++ [.dct true (dE L)]) (enc := tI) (r := [some (.int fr), some (.tup (us.map D.int)), some (.obj (M ++ X).length), y3, y4, none, y6, y7, y8, none, none]) rfl (fun k => .int ((pget k L).getD 0 : Nat)) (L.map (·.1)) fun k hk => by
    refine ⟨[some (.int fr), some (.tup (us.map D.int)), some (.obj (M ++ X).length), y3, y4, some (tI k), y6, y7, y8, none, none], rfl, ?_⟩
    obtain ⟨v, hv⟩ := pget_some hk
    have h1 : dctD ((M ++ X) ++ [.dct true (dE L)]) (.obj (M ++ X).length) = some (dE L) := by simp only [dctD, get_last]
    have h2 : ixD (.obj (M ++ X).length) (tI k) ((M ++ X) ++ [.dct true (dE L)]) = .ok (.int v) ((M ++ X) ++ [.dct true (dE L)]) := by
      simp only [ixD, h1, ixK, tI_key, if_true, dget_dE, hv, Option.map_some]
    simp only [le_21_5, ap_B, ap_var, List.getElem?_cons_succ, List.getElem?_cons_zero, Res.bind_ok, h2, Res.noX, hv, Option.getD_some]
  obtain ⟨c, c1, c2, c3⟩ := min_row ((L.map (·.1)).map fun k => (pget k L).getD 0) (by simpa using hne) ((M ++ X) ++ [.dct true (dE L)])
  rw [List.map_map] at c3
  have ec : c = m := by
    obtain ⟨k, hk, rfl⟩ := List.mem_map.mp c1
    obtain ⟨v, hv, hr, _⟩ := kn.row hk
    have h1 := hf.least List.nodup_nil (Nat.zero_le _) hr
    obtain ⟨k', v', hv', _, hle⟩ := kn.comp e m hf.run
    have h2 := c2 v' (List.mem_map.mpr ⟨k', pget_key hv', by simp [hv']⟩)
    simp only [hv, Option.getD_some] at h2 ⊢
    omega
  subst ec
  have hz : ((L.map (·.1)).map tI).length ≤ 16777216 := by
    have := kn.good.few
    simp only [List.length_map]
    omega
  have hd : D.isKey (.tup []) = true := tI_key []
  have hd1 : mDct1 (mTup mNil) (mC (.int 0)) (callF tb n) [some (.int fr), some (.tup (us.map D.int)), none, none, none, none, none, none, none, none, none] M = .ok (.obj M.length) (M ++ [.dct false (dE [([], 0)])]) := by
    simp [hd, LIM, D.bel, dE, tI]
  rw [show b_21 = (mSeq (mAsg (mDct1 (mTup mNil) (mC (.int 0))) (gN 2)) (mSeq (mFor (mSeqI (mVar 1)) fg_21_4 fb_21_4) (mRet (mBl minLD (mCons (mLc (mSeqK (mVar 2)) lg_21_5 lt_21_5 le_21_5 [5]) mNil))))) from rfl]
  simp only [ap_seq, ap_asg, hd1, Res.toS_ok, ap_gN, Res.bind_ok, List.set_cons_succ, List.set_cons_zero, ap_for, ap_seqI, ap_var, List.getElem?_cons_succ, List.getElem?_cons_zero, lp, ap_ret, ap_bl, ap_cons, ap_nil, ap_lc]
  rw [hsq _ rfl]
  simp only [Res.bind_ok, LIM, hz, if_true, wipeE, List.set_cons_succ, List.set_cons_zero]
  rw [show lt_21_5 = mYes from rfl, hlc]
  simp only [Res.noX, Res.bind_ok]
  have c3' : minLD [.lst ((L.map (·.1)).map fun k => D.int ((pget k L).getD 0 : Nat))] ((M ++ X) ++ [.dct true (dE L)]) = .ok (.int (c : Nat)) ((M ++ X) ++ [.dct true (dE L)]) := c3
  rw [c3']
  simp only [Res.noX, Res.toS_ok, retOf_ret]
  exact fin_pure rfl (by simp)
end K49

namespace K49
open PySem L2 RI
theorem smp_lay {d : D} (h : Smp d) : (D.toP d).canLay0 = true ∧ (D.toP d).depth = 0 := by
  cases h with
  | str => exact ⟨by simp [D.toP, PyData.canLay0, PyData.strOk], rfl⟩
  | _ => exact ⟨rfl, rfl⟩
theorem smps_lay : ∀ {ds : List D}, (∀ d ∈ ds, Smp d) → PyData.canLayAll0 (D.toPs ds) = true ∧ PyData.depthAll (D.toPs ds) = 0
  | [], _ => ⟨rfl, rfl⟩
  | d :: ds, h => by
    obtain ⟨a, b⟩ := smp_lay (h d List.mem_cons_self)
    obtain ⟨a', b'⟩ := smps_lay (ds := ds) (fun x hx => h x (List.mem_cons_of_mem _ hx))
    exact ⟨by simp only [D.toPs, PyData.canLayAll0, a, a', Bool.and_self], by simp only [D.toPs, PyData.depthAll, b, b']; rfl⟩
theorem eq_tup0 {ds : List D} (h : ∀ d ∈ ds, Smp d) (M : Mem) : eqD false (.tup ds) (.tup []) M = .ok (.bl ds.isEmpty) M := by
  have e : PyData.eqv (D.toP (.tup ds)) (D.toP (.tup [])) = ds.isEmpty := by
    cases ds <;> simp [D.toP, D.toPs, PyData.eqv, PyData.eqvAll]
  obtain ⟨a, b⟩ := smps_lay h
  have hs : SeqAt.shaped (D.toP (.tup ds)) = true := by
    simp only [D.toP, SeqAt.shaped, PyData.canLay0, PyData.depth, a, b]; decide
  simp only [eqD, derefD, noObj_tup, smp_nos h, noObjs_nil, hs, e]
  rfl
theorem cut_to (l : List D) (k : Nat) : cutD l none (some (k : Int)) = l.take k := by
  unfold cutD
  rw [HT.sIx_nat, HT.sIx_none]
  simp only [List.drop_zero, Nat.sub_zero]
  rcases Nat.le_total k l.length with h | h
  · rw [Nat.min_eq_left h]
  · rw [Nat.min_eq_right h, List.take_of_length_le (Nat.le_refl _), List.take_of_length_le h]
def e0 (i : Nat) : D := .int ((0 : Int) + (i : Nat))
theorem nice_e0 : Nice e0 := ⟨fun _ => rfl, fun _ => rfl, fun _ => Nat.zero_le _⟩
theorem lc_23 (F : FT) (ds : List D) (a c d e : Option D) (M : Mem) : lcG none lg_23_0 lt_23_0 le_23_0 F [a, some (.tup ds), c, d, e, none] (rngD 0 ds.length) M = .ok (((List.range' 0 ds.length).filter fun i => !(ds.getD i .non).isNon).map e0) M := by
  rw [rng_eq]
  refine lc_ok (enc := e0) rfl (fun i => !(ds.getD i .non).isNon) e0 (List.range' 0 ds.length) fun i hi => ⟨[a, some (.tup ds), c, d, e, some (e0 i)], rfl, ?_, fun _ => rfl⟩
  have hi' : i < ds.length := by
    have := List.mem_range'_1.mp hi
    omega
  have hg : ds[i]? = some (ds.getD i .non) := by
    simp [List.getD_eq_getElem?_getD, List.getElem?_eq_getElem hi']
  have hx : ixD (.tup ds) (e0 i) M = .ok (ds.getD i .non) M := by
    unfold e0
    rw [Int.zero_add]
    exact ix_get rfl (atI_nat hg)
  simp only [lt_23_0, ap_TB, ap_B, ap_var, List.getElem?_cons_succ, List.getElem?_cons_zero, Res.bind_ok, hx, Res.noX, ap_c]
  generalize ds.getD i .non = z
  cases z <;> simp [isD, D.isNon]
theorem five {A : Type} {r : Int} (h0 : 0 ≤ r) (h1 : r < 5) (a b c d e : D) (P : D → Prop) (ha : P a) (hb : P b) (hc : P c) (hd : P d) (he : P e) (M : Mem) : ∃ v, ixD (.lst [a, b, c, d, e]) (.int r) M = .ok v M ∧ P v := by
  have : r = 0 ∨ r = 1 ∨ r = 2 ∨ r = 3 ∨ r = 4 := by omega
  rcases this with rfl | rfl | rfl | rfl | rfl
  · exact ⟨a, ix_get rfl (atI_nat (j := 0) rfl), ha⟩
  · exact ⟨b, ix_get rfl (atI_nat (j := 1) rfl), hb⟩
  · exact ⟨c, ix_get rfl (atI_nat (j := 2) rfl), hc⟩
  · exact ⟨d, ix_get rfl (atI_nat (j := 3) rfl), hd⟩
  · exact ⟨e, ix_get rfl (atI_nat (j := 4) rfl), he⟩
def eightL : List D := [.non, .bl true, .int 0, .int 1, .int 2, .int 3, .int 4, .str [48]]
theorem eight {r : Int} (h0 : 0 ≤ r) (h1 : r < 8) (M : Mem) : ∃ v, ixD (.lst eightL) (.int r) M = .ok v M ∧ Smp v := by
  have : r = 0 ∨ r = 1 ∨ r = 2 ∨ r = 3 ∨ r = 4 ∨ r = 5 ∨ r = 6 ∨ r = 7 := by omega
  rcases this with rfl | rfl | rfl | rfl | rfl | rfl | rfl | rfl
  · exact ⟨_, ix_get rfl (atI_nat (j := 0) rfl), .non⟩
  · exact ⟨_, ix_get rfl (atI_nat (j := 1) rfl), .bl _⟩
  · exact ⟨_, ix_get rfl (atI_nat (j := 2) rfl), .int _⟩
  · exact ⟨_, ix_get rfl (atI_nat (j := 3) rfl), .int _⟩
  · exact ⟨_, ix_get rfl (atI_nat (j := 4) rfl), .int _⟩
  · exact ⟨_, ix_get rfl (atI_nat (j := 5) rfl), .int _⟩
  · exact ⟨_, ix_get rfl (atI_nat (j := 6) rfl), .int _⟩
  · exact ⟨_, ix_get rfl (atI_nat (j := 7) rfl), .str⟩
theorem vok_no {v : D} (h : Vok v) (hl : ∀ ds, v = .lst ds → D.noObjs ds = true) : D.noObj v = true := by
  cases h with
  | tup ds hs _ => exact smp_nos hs
  | lst ds _ => exact hl ds rfl
  | _ => rfl
def tl23 : MS := (mRet (mB addD (mB addD (mSl (mVar 1) mNoPart (mPart (mVar 4))) (mTup (mCons (mB ixD (mLst (mCons (mC .non) (mCons (mC (.bl true)) (mCons (mC (.int 0)) (mCons (mC (.int 1)) (mCons (mC (.int 2)) (mCons (mC (.int 3)) (mCons (mC (.int 4)) (mCons (mC (.str [48])) mNil))))))))) (mCall 16 (mCons (mVar 0) (mCons (mC (.int 8)) mNil)))) mNil))) (mSl (mVar 1) (mPart (mB addD (mVar 4) (mC (.int 1)))) mNoPart)))
theorem b23_eq : b_23 = (mSeq (mAsg (mCall 16 (mCons (mVar 0) (mCons (mC (.int 4)) mNil))) (gN 2))
 (mSeq (mIfS (mOr (mTB (mB (eqD false) (mVar 1) (mTup mNil))) (mTB (mB (eqD false) (mVar 2) (mC (.int 0)))))
 (mRet (mB ixD (mLst (mCons (mC .non) (mCons (mTup mNil) (mCons (mBl (toLstD false) (mCons (mVar 1) mNil)) (mCons (mB addD (mVar 1) (mTup (mCons (mC .non) mNil))) (mCons (mC (.int 3)) mNil)))))) (mCall 16 (mCons (mVar 0) (mCons (mC (.int 5)) mNil)))))
 mSkip)
 (mSeq (mAsg (mLc (mRng1 (mCons (mBl lenD (mCons (mVar 1) mNil)) mNil)) lg_23_0 lt_23_0 le_23_0 [5]) (gN 3))
 (mSeq (mAsg (mIf (mOr (mTB (mB (eqD false) (mVar 3) (mLst mNil))) (mTB (mB (eqD false) (mVar 2) (mC (.int 1))))) (mCall 16 (mCons (mVar 0) (mCons (mBl lenD (mCons (mVar 1) mNil)) mNil))) (mB ixD (mVar 3) (mCall 16 (mCons (mVar 0) (mCons (mBl lenD (mCons (mVar 3) mNil)) mNil))))) (gN 4))
 tl23)))) := rfl
theorem spoilt (n : Nat) (ds : List D) (hs : ∀ d ∈ ds, Smp d) (hl : ds.length ≤ 200) (M : Mem) (hM : Hm M []) : ∃ v M', Hm M' [] ∧ Vok v ∧ callF tb (n + 2) 23 [.obj 1, .tup ds] M = .ok v M' := by
  rw [u_23]
  obtain ⟨k, M1, k0, k1, hM1, e1⟩ := next n 4 (by omega) (by omega) M _ hM
  have heq := eq_tup0 hs M1
  have z200 : ds.length + 1 ≤ 16777216 := by omega
  by_cases hc : ds = [] ∨ k = 0
  · obtain ⟨r, M2, r0, r1, hM2, e2⟩ := next n 5 (by omega) (by omega) M1 _ hM1
    have hlst : toLstD false [.tup ds] M1 = .ok (.lst ds) M1 := toLst_of rfl
    have hadd : addD (.tup ds) (.tup [.non]) M1 = .ok (.tup (ds ++ [.non])) M1 := add_tup (by simp only [List.length_cons, List.length_nil]; exact z200) M1
    obtain ⟨v, hv, pv⟩ := five (A := Unit) r0 r1 .non (.tup []) (.lst ds) (.tup (ds ++ [.non])) (.int 3) (fun v => Vok v ∧ D.noObj v = true) ⟨.non, rfl⟩ ⟨.tup [] (by simp) (by simp), rfl⟩ ⟨.lst ds (by omega), smp_nos hs⟩ ⟨.tup _ (by
      intro d hd
      rcases List.mem_append.mp hd with q | q
      · exact hs d q
      · simp at q; subst q; exact .non) (by simp; omega), by simp [smp_nos hs]⟩ ⟨.int 3, rfl⟩ M2
    refine ⟨v, M2, hM2, pv.1, ?_⟩
    have hfin : fin false M.length v M2 = .ok v M2 := by
      rw [hm_len hM hM2 rfl]
      exact fin_same pv.2
    rw [← hfin]
    by_cases h0 : ds = []
    · subst h0
      simp at heq hlst hadd hv
      simp [b_23, e1, heq, LIM, hlst, hadd, e2, hv]
    · have hk : k = 0 := by rcases hc with q | q; exact absurd q h0; exact q
      subst hk
      have hem : ds.isEmpty = false := by simpa using h0
      rw [hem] at heq
      simp [b_23, e1, heq, LIM, hlst, hadd, e2, hv]
  · have h0 : ds ≠ [] := fun q => hc (.inl q)
    have hk : k ≠ 0 := fun q => hc (.inr q)
    have hpos : 0 < ds.length := List.length_pos_iff.mpr h0
    have hem : ds.isEmpty = false := by simpa using h0
    rw [hem] at heq
    have hld : ∀ M, lenD [.tup ds] M = .ok (.int ds.length) M := fun M => len_of rfl
    have hrg : rngOk (ds.length : Int) = true := rngOk_of (by omega) (by omega)
    have hlc := lc_23 (callF tb (n + 1)) ds (some (.obj 1)) (some (.int k)) none none M1
    generalize hsp : (List.range' 0 ds.length).filter (fun i => !(ds.getD i .non).isNon) = sp at hlc
    have hmem : ∀ i ∈ sp, i < ds.length := by
      intro i hi
      rw [← hsp] at hi
      have := List.mem_range'_1.mp (List.mem_filter.mp hi).1
      omega
    have hspl : sp.length ≤ ds.length := by
      rw [← hsp]
      exact Nat.le_trans (List.length_filter_le _ _) (by simp)
    have hen := eq_nil nice_e0 false sp M1
    -- behind the spot
    have fin2 : ∀ (s : Nat) (M2 : Mem), s < ds.length → Hm M2 [] → ∃ v M', Hm M' [] ∧ Vok v ∧ tl23 (callF tb (n + 1)) [some (.obj 1), some (.tup ds), some (.int k), some (.lst (sp.map e0)), some (.int (s : Nat)), none] M2 = .ok (.ret v) M' ∧ D.noObj v = true := by
      intro s M2 hs2 hM2
      obtain ⟨r, M3, r0, r1, hM3, e3⟩ := next n 8 (by omega) (by omega) M2 _ hM2
      obtain ⟨c, hcx, cs⟩ := eight r0 r1 M3
      have hsm : ∀ d ∈ ds.take s ++ [c] ++ ds.drop (s + 1), Smp d := by
        intro d hd
        rcases List.mem_append.mp hd with q | q
        · rcases List.mem_append.mp q with q | q
          · exact hs d (List.mem_of_mem_take q)
          · simp at q; subst q; exact cs
        · exact hs d (List.mem_of_mem_drop q)
      have hlen2 : (ds.take s ++ [c] ++ ds.drop (s + 1)).length ≤ 1000 := by
        simp only [List.length_append, List.length_take, List.length_cons, List.length_nil, List.length_drop]
        omega
      refine ⟨.tup (ds.take s ++ [c] ++ ds.drop (s + 1)), M3, hM3, .tup _ hsm hlen2, ?_, smp_nos hsm⟩
      have ct := cut_to ds s
      have cn := cut_nat ds (s + 1)
      have a1 : addD (.tup (ds.take s)) (.tup [c]) M3 = .ok (.tup (ds.take s ++ [c])) M3 := add_tup (by simp only [List.length_take, List.length_cons, List.length_nil]; show _ ≤ 16777216; omega) M3
      have a2 : addD (.tup (ds.take s ++ [c])) (.tup (ds.drop (s + 1))) M3 = .ok (.tup (ds.take s ++ [c] ++ ds.drop (s + 1))) M3 := add_tup (by simp only [List.length_append, List.length_take, List.length_cons, List.length_nil, List.length_drop]; show _ ≤ 16777216; omega) M3
      rw [show ((s + 1 : Nat) : Int) = (s : Int) + 1 by omega] at cn
      unfold eightL at hcx
      simp only [tl23, ap_ret, ap_B, ap_sl, ap_var, List.getElem?_cons_succ, List.getElem?_cons_zero, Res.bind_ok, ap_noPart, ap_part, slT, ct, cn, Res.noX, ap_tup, ap_cons, ap_nil, ap_lst, ap_c, ap_call, List.length_cons, List.length_nil, Nat.zero_add, LIM, show (8 : Nat) ≤ 16777216 by omega, show (1 : Nat) ≤ 16777216 by omega, if_true, e3, hcx, a1, a2, add_ii, Res.toS_ok, show (0 + 1 + 1 + 1 + 1 + 1 + 1 + 1 + 1 : Nat) ≤ 16777216 by omega]
    have go : ∀ (s : Nat) (M2 : Mem), s < ds.length → Hm M2 [] → (retOf false M.length (b_23 (callF tb (n + 1)) [some (.obj 1), some (.tup ds), none, none, none, none] M) = retOf false M.length (tl23 (callF tb (n + 1)) [some (.obj 1), some (.tup ds), some (.int k), some (.lst (sp.map e0)), some (.int (s : Nat)), none] M2)) → ∃ v M', Hm M' [] ∧ Vok v ∧ retOf false M.length (b_23 (callF tb (n + 1)) [some (.obj 1), some (.tup ds), none, none, none, none] M) = .ok v M' := by
      intro s M2 hs2 hM2 he
      obtain ⟨v, M', hM', pv, ev, no⟩ := fin2 s M2 hs2 hM2
      refine ⟨v, M', hM', pv, ?_⟩
      rw [he, ev, retOf_ret, hm_len hM hM' rfl]
      exact fin_same no
    have z3 : ds.length ≤ 16777216 := by omega
    have z4 : (rngD 0 ds.length).length ≤ 16777216 := by simp [rngD] <;> omega
    by_cases hb : sp = [] ∨ k = 1
    · obtain ⟨t, M2, t0, t1, hM2, e2⟩ := next n (ds.length : Nat) (by omega) (by omega) M1 _ hM1
      refine go t.toNat M2 (by omega) hM2 ?_
      rw [show ((t.toNat : Nat) : Int) = t by omega]
      rw [b23_eq]
      by_cases hsp0 : sp = []
      · subst hsp0
        simp at hen hlc
        simp [e1, heq, hk, hld, hrg, LIM, z4, wipeE, hlc, hen, e2]
      · have h1 : k = 1 := by rcases hb with q | q; exact absurd q hsp0; exact q
        subst h1
        have : sp.isEmpty = false := by simpa using hsp0
        rw [this] at hen
        simp [e1, heq, hld, hrg, LIM, z4, wipeE, hlc, hen, e2]
    · have hsp0 : sp ≠ [] := fun q => hb (.inl q)
      have h1 : k ≠ 1 := fun q => hb (.inr q)
      have hspp : 0 < sp.length := List.length_pos_iff.mpr hsp0
      have : sp.isEmpty = false := by simpa using hsp0
      rw [this] at hen
      obtain ⟨t, M2, t0, t1, hM2, e2⟩ := next n (sp.length : Nat) (by omega) (by omega) M1 _ hM1
      have hlsp : lenD [.lst (sp.map e0)] M1 = .ok (.int sp.length) M1 := by rw [len_of rfl]; simp
      have ht : t.toNat < sp.length := by omega
      have hix : ixD (.lst (sp.map e0)) (.int t) M2 = .ok (.int ((sp[t.toNat] : Nat) : Int)) M2 := ix_get rfl (by
        rw [at_nat t0 (by simpa using t1), List.getElem_map]
        simp [e0])
      refine go (sp[t.toNat]) M2 (hmem _ (List.getElem_mem ht)) hM2 ?_
      rw [b23_eq]
      simp [e1, heq, hk, h1, hld, hrg, LIM, z4, wipeE, hlc, hen, hlsp, e2, hix]
end K49

namespace K49
open PySem L2 RI
theorem far_same {f : Nat} {us e e' : List Int} {m m' : Nat} (h : PG.Far f [] us e m) (h' : PG.Far f [] us e' m') : m' = m := by
  have a := h.least List.nodup_nil (Nat.zero_le _) h'.run
  have b := h'.least List.nodup_nil (Nat.zero_le _) h.run
  omega
theorem rule_more (w : List Nat) (hw : IsRule w) (n fr : Nat) (h1 : 1 ≤ fr) (h4 : fr ≤ 4) (us : List Int) (h : ∀ u ∈ us, 0 ≤ u ∧ u ≤ 4) (hl : us.length ≤ 200) {e : List Int} {m : Nat} (hf : PG.Far fr [] us e m) (M : Mem) :
    ∃ l : List Int, callF tb (n + 4) 8 [.str w, .int fr, .tup (us.map D.int)] M = .ok (.lst (l.map D.int)) M ∧ m ≤ l.length := by
  have A : ∀ b : Bool, ∃ l : List Int, callF tb (n + 4) 8 [.str (wA b), .int fr, .tup (us.map D.int)] M = .ok (.lst (l.map D.int)) M ∧ m ≤ l.length := by
    intro b
    refine ⟨_, faults (simA b fr h1 h4) (rule_A b) h1 h4 n us h hl M, ?_⟩
    obtain ⟨e', m', r, q⟩ := runA b fr h1 h4 us 0 [] [] (Nat.zero_le _) List.nodup_nil
    have := hf.least List.nodup_nil (Nat.zero_le _) r
    have q' : ((simA b fr h1 h4).res us).1.length = 0 + m' := q
    omega
  rcases hw with rfl | rfl | rfl
  · exact A false
  · exact A true
  · refine ⟨_, faults (simS fr h1 h4) rule_second h1 h4 n us h hl M, ?_⟩
    obtain ⟨e', m', r, q⟩ := runS fr h1 h4 us 0 [] [] (Nat.zero_le _) List.nodup_nil
    have := hf.least List.nodup_nil (Nat.zero_le _) r
    have q' : ((simS fr h1 h4).res us).1.length = 0 + m' := q
    omega
theorem lc_24 (fr : Nat) (h1 : 1 ≤ fr) (h4 : fr ≤ 4) (us : List Int) (h : ∀ u ∈ us, 0 ≤ u ∧ u ≤ 4) (hl : us.length ≤ 200) {e : List Int} {m : Nat} (hf : PG.Far fr [] us e m) (a b c d : Option D) (M : Mem) :
    lcG none lg_24_0 lt_24_0 le_24_0 (callF tb 11) [a, b, some (.tup (us.map D.int)), c, some (.int (m : Nat)), some (.int fr), d, none] [.str wFirst, .str wLately, .str wSecond] M = .ok [] M := by
  have := lc_ok (g := lg_24_0) (mt := lt_24_0) (me := le_24_0) (F := callF tb 11) (gd := none) (M := M) (enc := D.str) (r := [a, b, some (.tup (us.map D.int)), c, some (.int (m : Nat)), some (.int fr), d, none]) rfl (fun _ => false) D.str [wFirst, wLately, wSecond] fun w hw => by
    have hr : IsRule w := by
      simp at hw
      exact hw
    obtain ⟨l, hc, hm⟩ := rule_more w hr 7 fr h1 h4 us h hl hf M
    refine ⟨[a, b, some (.tup (us.map D.int)), c, some (.int (m : Nat)), some (.int fr), d, some (.str w)], rfl, ?_, fun q => by cases q⟩
    have hlen := len_of (M := M) (d := .lst (l.map D.int)) rfl
    have hn : ¬ (l.length : Int) < m := by omega
    simp [lt_24_0, hc, hlen, hn]
  exact this
theorem eq_enc (o : Option Nat) (M : Mem) : eqD false (encN o) (encN o) M = .ok (.bl true) M := by
  cases o with
  | none => exact eq_same rfl (by simp [encN, D.toP, SeqAt.shaped, PyData.canLay0, PyData.depth]) false M
  | some n => simp [encN]
def tl24 : MS := (mSeq (mIfS (mAnd (mNot (mTru (mVar 6))) (mTB (mB (eqD true) (mVar 4) (mCall 21 (mCons (mVar 5) (mCons (mVar 2) mNil))))))
 (mRet (mC (.bl false)))
 mSkip)
 (mSeq (mIfS (mOr (mTB (mB (eqD true) (mCall 22 (mCons (mVar 5) (mCons (mVar 2) (mCons (mVar 3) mNil)))) (mVar 4))) (mTB (mB (eqD true) (mCall 10 (mCons (mVar 5) (mCons (mVar 2) (mCons (mVar 3) mNil)))) (mVar 4))))
 (mRet (mC (.bl false)))
 mSkip)
 (mSeq (mIfS (mTB (mB (eqD true) (mLc (mSeqI (mLst (mCons (mC (.str [102, 105, 114, 115, 116])) (mCons (mC (.str [108, 97, 116, 101, 108, 121])) (mCons (mC (.str [115, 101, 99, 111, 110, 100])) mNil))))) lg_24_0 lt_24_0 le_24_0 [7]) (mLst mNil)))
 (mRet (mC (.bl false)))
 mSkip)
 (mSeq (mAsg (mCall 23 (mCons (mVar 1) (mCons (mVar 3) mNil))) (gN 3))
 (mRet (mB (eqD false) (mCall 10 (mCons (mVar 5) (mCons (mVar 2) (mCons (mVar 3) mNil)))) (mCall 22 (mCons (mVar 5) (mCons (mVar 2) (mCons (mVar 3) mNil))))))))))
theorem tail_ok (fr : Nat) (h1 : 1 ≤ fr) (h4 : fr ≤ 4) (us : List Int) (h : ∀ u ∈ us, 0 ≤ u ∧ u ≤ 4) (hl : us.length ≤ 200) (ds : List D) (hd : ds.length = us.length) (hs : ∀ d ∈ ds, Smp d) {e : List Int} {m : Nat} (hf : PG.Far fr [] us e m) (hc : ∀ j, cnt fr (us.zip ds) [] j = some (j + m)) (bl : Bool) (a : Option D) (M : Mem) (hM : Hm M []) :
    ∃ M', tl24 (callF tb 11) [a, some (.obj 1), some (.tup (us.map D.int)), some (.tup ds), some (.int (m : Nat)), some (.int fr), some (.bl bl), none] M = .ok (.ret (.bl true)) M' := by
  have hv : Vok (.tup ds) := .tup ds hs (by omega)
  have c21 := law_least 10 fr h4 us h hf M
  have hfb : fbV fr us (.tup ds) = some m := by simp [fbV, hd, hc]
  have c22 := law_count 10 fr h4 us h hl (.tup ds) hv M
  have c10 := faults_by 8 fr h1 h4 us h hl (.tup ds) hv M
  rw [hfb] at c22 c10
  simp only [encN] at c22 c10
  have hlc := lc_24 fr h1 h4 us h hl hf a (some (.obj 1)) (some (.tup ds)) (some (.bl bl)) M
  unfold wFirst wLately wSecond at hlc
  obtain ⟨v, M', hM', pv, e23⟩ := spoilt 9 ds hs (by omega) M hM
  have d22 := law_count 10 fr h4 us h hl v pv M'
  have d10 := faults_by 8 fr h1 h4 us h hl v pv M'
  have hen := eq_nil (A := Int) nice_int true [] M
  simp only [List.map_nil] at hen
  refine ⟨M', ?_⟩
  cases bl with
  | true => simp [tl24, truD, c22, c10, LIM, wipeE, hlc, hen, e23, d10, d22, eq_enc]
  | false => simp [tl24, truD, c21, c22, c10, LIM, wipeE, hlc, hen, e23, d10, d22, eq_enc]
theorem run : Run := by
  intro ns hns
  rw [u_24]
  obtain ⟨M0, hm0, e0⟩ := mix 10 ns 49 hns
  obtain ⟨k1, M1, k1a, k1b, hm1, e1⟩ := next 10 4 (by omega) (by omega) M0 _ hm0
  obtain ⟨k2, M2, k2a, k2b, hm2, e2⟩ := next 10 3 (by omega) (by omega) M1 _ hm1
  obtain ⟨k3, M3, k3a, k3b, hm3, e3⟩ := next 10 5 (by omega) (by omega) M2 _ hm2
  have hb : b_24 = (mSeq (mAsg (mCall 15 (mCons (mVar 0) (mCons (mC (.int 49)) mNil))) (gN 1))
    (mSeq (mAsg (mTup (mCons (mB addD (mC (.int 1)) (mCall 16 (mCons (mVar 1) (mCons (mC (.int 4)) mNil)))) (mCons (mB (eqD false) (mCall 16 (mCons (mVar 1) (mCons (mC (.int 3)) mNil))) (mC (.int 0))) mNil))) (gTp 2 (gsCons (gN 5) (gsCons (gN 6) gsNil))))
    (mSeq (mAsg (mCall 17 (mCons (mVar 1) (mCons (mB addD (mC (.int 1)) (mCall 16 (mCons (mVar 1) (mCons (mC (.int 5)) mNil)))) (mCons (mIf (mTru (mVar 6)) (mC (.int 200)) (mC (.int 14))) mNil)))) (gN 2))
    (mSeq (mAsg (mCall 13 (mCons (mVar 5) (mCons (mVar 2) mNil))) (gN 3))
    (mSeq (mAsg (mCall 14 (mCons (mVar 5) (mCons (mVar 2) mNil))) (gN 4)) tl24))))) := rfl
  obtain ⟨fr, hfr⟩ : ∃ fr : Nat, (1 : Int) + k1 = fr := ⟨(1 + k1).toNat, by omega⟩
  have main : ∀ most : Int, 0 ≤ most → most ≤ 200 → (if k2 = 0 then most = 200 else most = 14) → ∃ M', retOf false ([] : Mem).length (b_24 (callF tb 11) [some (.lst (ns.map .int)), none, none, none, none, none, none, none] []) = .ok (.bl true) M' := by
    intro most m0 m1 hmost
    obtain ⟨us, M4, hm4, hu, hul, e4⟩ := uses 9 (1 + k3) most (by omega) (by omega) m0 m1 M3 hm3
    have hu' : ∀ u ∈ us, 0 ≤ u ∧ u ≤ 4 := fun u q => ⟨(hu u q).1, by have := (hu u q).2; omega⟩
    obtain ⟨ds, e, m, e5, hd, hs, hf, hc⟩ := best_choices 7 fr (by omega) (by omega) us hu' (by omega) M4
    obtain ⟨e', m', e6, hf'⟩ := fewest_faults 7 fr (by omega) (by omega) us hu' (by omega) M4
    have em := far_same hf hf'
    subst em
    obtain ⟨M', et⟩ := tail_ok fr (by omega) (by omega) us hu' (by omega) ds hd hs hf hc (decide (k2 = 0)) (some (.lst (ns.map .int))) M4 hm4
    refine ⟨M'.take 0, ?_⟩
    rw [hb]
    by_cases hk2 : k2 = 0
    · subst hk2
      rw [if_pos rfl] at hmost
      subst hmost
      simp only [decide_true] at et
      simp [e0, e1, hfr, e2, LIM, e3, truD, e4, e5, e6, et] <;> rfl
    · rw [if_neg hk2] at hmost
      subst hmost
      simp only [decide_eq_false hk2] at et
      simp [e0, e1, hfr, e2, hk2, LIM, e3, truD, e4, e5, e6, et] <;> rfl
  by_cases hk2 : k2 = 0
  · exact main 200 (by omega) (by omega) (by rw [if_pos hk2])
  · exact main 14 (by omega) (by omega) (by rw [if_neg hk2])
end K49

open PySem PySem.W PyProof.Rows
set_option maxHeartbeats 0 in
theorem PySem.Challenge.cw_stephouse_k49_whole_fewest_faults_holds : PySem.Challenge.rw_stephouse_k49_whole_fewest_faults.Holds := by
  w_on; o_law; k_head; (case hw => w_witness2)
  k_fill
  refine L2.walk_of (l := PySem.Challenge.rw_stephouse_k49_whole_fewest_faults) (n := 63) (k := 12) (x := "_law_script") (CX := fun w => L2.CX PySem.Challenge.rw_stephouse_k49_whole_fewest_faults.prog w) (sp := fun w => RI.spL K49.tb _ PySem.Challenge.rw_stephouse_k49_whole_fewest_faults.prog w ["_law_script"] 12 24) rfl (by decide) rfl ⟨rfl, by decide, by decide⟩ (fun w h Y => PySem.W.kIn_of Y) ?F (fun _ _ a ns hl _ hS => RI.sp_lawL hS (K49.run ns hl)) (fun _ _ _ _ _ h => RI.cx_no h)
  case F =>
    intro w mg fa h KX G hmg
    refine' K49.all_mk KX G hmg ?qqa0 ?qql0 ?qqc0 ?qqk0 ?qqa1 ?qql1 ?qqc1 ?qqk1 ?qqa2 ?qql2 ?qqc2 ?qqk2 ?qqa3 ?qql3 ?qqc3 ?qqk3 ?qqa4 ?qql4 ?qqc4 ?qqk4 ?qqa5 ?qql5 ?qqc5 ?qqk5 ?qqa6 ?qql6 ?qqc6 ?qqk6 ?qqa7 ?qql7 ?qqc7 ?qqk7 ?qqa8 ?qql8 ?qqc8 ?qqk8 ?qqa9 ?qql9 ?qqc9 ?qqk9 ?qqa10 ?qql10 ?qqc10 ?qqk10 ?qqa11 ?qql11 ?qqc11 ?qqk11 ?qqa12 ?qql12 ?qqc12 ?qqk12 ?qqa13 ?qql13 ?qqc13 ?qqk13 ?qqa14 ?qql14 ?qqc14 ?qqk14 ?qqa15 ?qql15 ?qqc15 ?qqk15 ?qqa16 ?qql16 ?qqc16 ?qqk16 ?qqa17 ?qql17 ?qqc17 ?qqk17 ?qqa21 ?qql21 ?qqc21 ?qqk21 ?qqa22 ?qql22 ?qqc22 ?qqk22 ?qqa23 ?qql23 ?qqc23 ?qqk23 ?qqa24 ?qql24 ?qqc24 ?qqk24 ?qqg0 ?qqg1 ?qqg2 ?qqgl2 ?qqg3 ?qqg4 ?qqg5 ?qqxa0 ?qqxb0 ?qqxt0 ?qqxd0 ?qqxa1 ?qqxb1 ?qqxt1 ?qqxd1 ?qqxk0 ?qqxx0 ?qqxk1 ?qqxx1 ?qqz0 ?qqz1 ?qqz2 ?qqz3 ?qqz4 ?qqz5 ?qqz6 ?qqz7 ?qqz8 ?qqz9 ?qqz10 ?qqz11 ?qqz12 ?qqz13 ?qqz14 ?qqz15 ?qqz16
    (case qqa0 => k_is)
    (case qql0 => k_is)
    (case qqc0 => k_is)
    (case qqk0 => k_is)
    (case qqa1 => k_is)
    (case qql1 => k_is)
    (case qqc1 => k_is)
    (case qqk1 => k_is)
    (case qqa2 => k_is)
    (case qql2 => k_is)
    (case qqc2 => k_is)
    (case qqk2 => k_is)
    (case qqa3 => k_is)
    (case qql3 => k_is)
    (case qqc3 => k_is)
    (case qqk3 => k_is)
    (case qqa4 => k_is)
    (case qql4 => k_is)
    (case qqc4 => k_is)
    (case qqk4 => k_is)
    (case qqa5 => k_is)
    (case qql5 => k_is)
    (case qqc5 => k_is)
    (case qqk5 => k_is)
    (case qqa6 => k_is)
    (case qql6 => k_is)
    (case qqc6 => k_is)
    (case qqk6 => k_is)
    (case qqa7 => k_is)
    (case qql7 => k_is)
    (case qqc7 => k_is)
    (case qqk7 => k_is)
    (case qqa8 => k_is)
    (case qql8 => k_is)
    (case qqc8 => k_is)
    (case qqk8 => k_is)
    (case qqa9 => k_is)
    (case qql9 => k_is)
    (case qqc9 => k_is)
    (case qqk9 => k_is)
    (case qqa10 => k_is)
    (case qql10 => k_is)
    (case qqc10 => k_is)
    (case qqk10 => k_is)
    (case qqa11 => k_is)
    (case qql11 => k_is)
    (case qqc11 => k_is)
    (case qqk11 => k_is)
    (case qqa12 => k_is)
    (case qql12 => k_is)
    (case qqc12 => k_is)
    (case qqk12 => k_is)
    (case qqa13 => k_is)
    (case qql13 => k_is)
    (case qqc13 => k_is)
    (case qqk13 => k_is)
    (case qqa14 => k_is)
    (case qql14 => k_is)
    (case qqc14 => k_is)
    (case qqk14 => k_is)
    (case qqa15 => k_is)
    (case qql15 => k_is)
    (case qqc15 => k_is)
    (case qqk15 => k_is)
    (case qqa16 => k_is)
    (case qql16 => k_is)
    (case qqc16 => k_is)
    (case qqk16 => k_is)
    (case qqa17 => k_is)
    (case qql17 => k_is)
    (case qqc17 => k_is)
    (case qqk17 => k_is)
    (case qqa21 => k_is)
    (case qql21 => k_is)
    (case qqc21 => k_is)
    (case qqk21 => k_is)
    (case qqa22 => k_is)
    (case qql22 => k_is)
    (case qqc22 => k_is)
    (case qqk22 => k_is)
    (case qqa23 => k_is)
    (case qql23 => k_is)
    (case qqc23 => k_is)
    (case qqk23 => k_is)
    (case qqa24 => k_is)
    (case qql24 => k_is)
    (case qqc24 => k_is)
    (case qqk24 => k_is)
    (case qqg0 => k_is)
    (case qqg1 => k_is)
    (case qqg2 => k_is)
    (case qqgl2 => k_is)
    (case qqg3 => k_is)
    (case qqg4 => k_is)
    (case qqg5 => k_is)
    (case qqxa0 => k_is)
    (case qqxb0 => k_is)
    (case qqxt0 => k_is)
    (case qqxd0 => k_is)
    (case qqxa1 => k_is)
    (case qqxb1 => k_is)
    (case qqxt1 => k_is)
    (case qqxd1 => k_is)
    (case qqxk0 => k_is)
    (case qqxx0 => k_exc)
    (case qqxk1 => k_is)
    (case qqxx1 => k_exc)
    (case qqz0 => k_is)
    (case qqz1 => k_is)
    (case qqz2 => k_is)
    (case qqz3 => k_is)
    (case qqz4 => k_is)
    (case qqz5 => k_is)
    (case qqz6 => k_is)
    (case qqz7 => k_is)
    (case qqz8 => k_is)
    (case qqz9 => k_is)
    (case qqz10 => k_is)
    (case qqz11 => k_is)
    (case qqz12 => k_is)
    (case qqz13 => k_is)
    (case qqz14 => k_is)
    (case qqz15 => k_is)
    (case qqz16 => k_is)

