import PyProof.Rows.All
import Wide.All
import OpenK.AllK
import Wide.FinOn
import HandS.ForMost
import HandS.Walk
import HandS.TupAny
import HandS.IsInst
import HandS.Deep
import HandS.Zip
import KE.KDictKeyed
import HandS.Exc
import HandS.ExcInit
import HandS.TryMany
import HandS.ExcIs
import HandS.WordsExc
import HandS.Property
import HandS.More
import KE.DataCmp
import HandS.Style
import HandS.NoneIn
import HandS.Conv
import KE.GoesMore
import KE.KDictWalk
import HandS.TupMul
import HandS.Star
import KE.SortCalls
import KE.DataMinMax
import KE.KDictList
import HandS.FStr
import KE.KDictCopyH
import KE.KDictSum
import KE.KDictZip
import HandS.SetFor
import HandS.SetKeys
import KE.KDictDisplayH
import HandS.TryOnly
import HandS.DictComp
import PySem.Challenge.RW_stephouse_k76_whole_rights_beside_the_lo
set_option Elab.async false
set_option linter.all false
set_option maxRecDepth 100000
set_option maxHeartbeats 4000000
namespace RI
open PySem PySem.Spec PyProof.Rows L2

/-! ### data -/
inductive D where
  | non | bl (b : Bool) | int (i : Int) | str (s : List Nat) | tup (l : List D) | lst (l : List D) | obj (i : Nat)
  /-- the exception that is handled: its class, its fields -/
  | exn (c : Str) (ns : List Str) (ds : List D)
  /-- an instance that does not change: its class, its fields -/
  | ins (c : Str) (ns : List Str) (ds : List D)
  deriving Inhabited
/-- dct: a dict whose keys are tuples; dks: one whose keys are numbers and texts (lk: it is walked, and never written again); ins: an instance -/
inductive MO where
  | lst (l : List D)
  | dct (lk : Bool) (l : List (D × D))
  | dks (lk : Bool) (l : List (D × D))
  | ins (c : Str) (fs : List (Str × D))
abbrev Mem := List MO
/-- an exception: its class, its fields -/
structure Ex where
  cls : Str
  fs : List (Str × D)
inductive Res (A : Type) where
  | ok (a : A) (M : Mem)
  | exc (x : Ex) (M : Mem)
  | bad
def Res.bind {A B : Type} (r : Res A) (f : A → Mem → Res B) : Res B := match r with
  | .ok a M => f a M
  | .exc x M => .exc x M
  | .bad => .bad
/-- what raises nothing -/
def Res.noX {A : Type} : Res A → Res A
  | .ok a M => .ok a M
  | _ => .bad
@[simp] theorem Res.noX_ok {A : Type} (a : A) (M : Mem) : (Res.ok a M).noX = .ok a M := rfl
@[simp] theorem Res.noX_bad {A : Type} : (Res.bad : Res A).noX = .bad := rfl
@[simp] theorem Res.bind_exc {A B : Type} (x : Ex) (M : Mem) (f : A → Mem → Res B) : (Res.exc x M).bind f = .exc x M := rfl
@[simp] theorem Res.bind_ok {A B : Type} (a : A) (M : Mem) (f : A → Mem → Res B) : (Res.ok a M).bind f = f a M := rfl
@[simp] theorem Res.bind_bad {A B : Type} (f : A → Mem → Res B) : (Res.bad : Res A).bind f = .bad := rfl

mutual
def D.bel (n : Nat) : D → Bool
  | .obj i => decide (i < n)
  | .exn _ _ _ => false
  | .ins _ _ l => D.bels n l
  | .tup l => D.bels n l
  | .lst l => D.bels n l
  | _ => true
def D.bels (n : Nat) : List D → Bool
  | [] => true
  | d :: ds => D.bel n d && D.bels n ds
end
/-! objects taken out, by g -/
mutual
def D.frz (g : Nat → D) : D → D
  | .obj i => g i
  | .exn c ns ds => .exn c ns ds
  | .ins c ns ds => .ins c ns (D.frzs g ds)
  | .tup l => .tup (D.frzs g l)
  | .lst l => .lst (D.frzs g l)
  | .non => .non
  | .bl b => .bl b
  | .int i => .int i
  | .str s => .str s
def D.frzs (g : Nat → D) : List D → List D
  | [] => []
  | d :: ds => D.frz g d :: D.frzs g ds
end
def frzM (M : Mem) (mark : Nat) : Nat → Nat → D
  | 0, i => .obj i
  | n + 1, i => if i < mark then .obj i else match M[i]? with
    | some (.lst l) => .lst (D.frzs (frzM M mark n) l)
    | some (.ins c fs) => .ins c (fs.map (·.1)) (D.frzs (frzM M mark n) (fs.map (·.2)))
    | _ => .obj i

/-! ### keys -/
mutual
def D.toK : D → NestedKey
  | .non => .none
  | .bl b => .num (if b = true then 1 else 0)
  | .int i => .num i
  | .str s => .text ⟨s.toArray⟩
  | .tup l => .tup (D.toKs l)
  | .lst _ => .none
  | .obj _ => .none
  | .exn _ _ _ => .none
  | .ins _ _ _ => .none
def D.toKs : List D → List NestedKey
  | [] => []
  | d :: ds => D.toK d :: D.toKs ds
end
mutual
/-- made of numbers, bools, texts, None and tuples alone -/
def D.keyly : D → Bool
  | .tup l => D.keylys l
  | .lst _ => false
  | .obj _ => false
  | .exn _ _ _ => false
  | .ins _ _ _ => false
  | _ => true
def D.keylys : List D → Bool
  | [] => true
  | d :: ds => D.keyly d && D.keylys ds
end
/-- a tuple that may be a key -/
def D.isKey : D → Bool
  | .tup l => D.keylys l && Nat.ble (NestedKey.depthAll (D.toKs l)) 7
  | _ => false

/-! ### where things stand -/
structure Kb where
  K : PySem.W.Frag
  P : Program
  w : World
  mg : Str → Option Value
  hx : Option (Addr × Value × Option Addr)
/-- l: the mutable objects; p: lists that are being made (a comprehension's), known to nobody; k: those of l that are never written again -/
structure Mu where
  l : List Addr
  p : List Addr
  k : List Addr
structure Wd where
  H : Hp
  mu : Mu
/-- neither mutable nor private -/
def Fz (W : Wd) (a : Addr) : Prop := (a ∉ W.mu.l ∨ a ∈ W.mu.k) ∧ a ∉ W.mu.p
def KTp (K : PySem.W.Frag) (a : Addr) (xs : List V) : Prop :=
  ∃ (o : Obj) (its : Array Value) (n : Nat), K.lookup a = some o ∧ o.cls = .type "tuple" ∧ o.data = .seq its n ∧ its.size ≤ sizeLine ∧ Vals xs its.toList
def KLs (K : PySem.W.Frag) (a : Addr) (xs : List V) : Prop :=
  ∃ (o : Obj) (its : Array Value) (n : Nat), K.lookup a = some o ∧ o.cls = .type "list" ∧ o.dict = none ∧ o.data = .seq its n ∧ its.size ≤ sizeLine ∧ Vals xs its.toList
def LstAt (K : Kb) (W : Wd) (a : Addr) (xs : List V) : Prop := (Rd W.H a (.lst xs) ∧ Fz W a) ∨ KLs K.K a xs
def TupAt (K : Kb) (W : Wd) (a : Addr) (xs : List V) : Prop := (Rd W.H a (.tup xs) ∧ Fz W a) ∨ KTp K.K a xs
theorem LstAt.sq {K : Kb} {W : Wd} {a : Addr} {xs : List V} (h : LstAt K W a xs) : SqL K.K W.H a xs := by
  rcases h with h | h
  · exact .inl h.1
  · exact .inr h
theorem TupAt.sq {K : Kb} {W : Wd} {a : Addr} {xs : List V} (h : TupAt K W a xs) : SqT K.K W.H a xs := by
  rcases h with h | h
  · exact .inl h.1
  · exact .inr h
mutual
def DRel (K : Kb) (W : Wd) : D → V → Prop
  | .non, v => v = .non
  | .bl b, v => v = .bl b
  | .int i, v => v = .int i
  | .str s, v => v = .str ⟨s.toArray⟩
  | .tup l, v => ∃ a xs, v = .ref a ∧ TupAt K W a xs ∧ DRels K W l xs
  | .lst l, v => ∃ a xs, v = .ref a ∧ LstAt K W a xs ∧ DRels K W l xs
  | .obj i, v => ∃ a, v = .ref a ∧ W.mu.l[i]? = some a
  | .exn c ns ds, v => ∃ a cls od, K.hx = some (a, cls, od) ∧ v = .ref a ∧ K.mg c = some cls ∧ ((od = none ∧ ds = []) ∨ ∃ dx xs, od = some dx ∧ Fz W dx ∧ W.H dx = some (.xd (ns.zip xs)) ∧ ns.length = ds.length ∧ DRels K W ds xs)
  | .ins c ns ds, v => ∃ a C dx xs, v = .ref a ∧ K.mg c = some (.ref C) ∧ W.H a = some (.ins C dx (ns.zip xs)) ∧ Fz W a ∧ W.H dx = some (.own a) ∧ Fz W dx ∧ ns.length = ds.length ∧ DRels K W ds xs
def DRels (K : Kb) (W : Wd) : List D → List V → Prop
  | [], vs => vs = []
  | d :: ds, vs => ∃ v r, vs = v :: r ∧ DRel K W d v ∧ DRels K W ds r
end
/-- what is known of data stays -/
structure Lk (W W' : Wd) : Prop where
  pre : ∃ t, W'.mu.l = W.mu.l ++ t
  keep : ∀ a o, W.H a = some o → Fz W a → W'.H a = some o ∧ Fz W' a
theorem Lk.refl (W : Wd) : Lk W W := ⟨⟨[], by simp⟩, fun _ _ h n => ⟨h, n⟩⟩
theorem Lk.trans {W W1 W2 : Wd} (a : Lk W W1) (b : Lk W1 W2) : Lk W W2 := by
  obtain ⟨t, e⟩ := a.pre
  obtain ⟨t', e'⟩ := b.pre
  exact ⟨⟨t ++ t', by rw [e', e, List.append_assoc]⟩, fun x o h n => let ⟨h1, n1⟩ := a.keep x o h n; b.keep x o h1 n1⟩
/-- what stands later -/
structure Le (W W' : Wd) : Prop extends Lk W W' where
  pv : W'.mu.p = W.mu.p
  pvk : ∀ a, a ∈ W.mu.p → W'.H a = W.H a
theorem Le.refl (W : Wd) : Le W W := ⟨Lk.refl W, rfl, fun _ _ => rfl⟩
theorem Le.trans {W W1 W2 : Wd} (a : Le W W1) (b : Le W1 W2) : Le W W2 :=
  ⟨a.toLk.trans b.toLk, b.pv.trans a.pv, fun x h => (b.pvk x (by rw [a.pv]; exact h)).trans (a.pvk x h)⟩
theorem Rd.lk {W W' : Wd} (l : Lk W W') {a : Addr} {u : HO} (h : Rd W.H a u ∧ Fz W a) : Rd W'.H a u ∧ Fz W' a := by
  rcases h with ⟨h | ⟨o, h⟩, n⟩
  · exact ⟨.inl (l.keep a _ h n).1, (l.keep a _ h n).2⟩
  · exact ⟨.inr ⟨o, (l.keep a _ h n).1⟩, (l.keep a _ h n).2⟩
theorem LstAt.lk {K : Kb} {W W' : Wd} (l : Lk W W') {a : Addr} {xs : List V} (h : LstAt K W a xs) : LstAt K W' a xs := by
  rcases h with h | h
  · exact .inl (Rd.lk l h)
  · exact .inr h
theorem TupAt.lk {K : Kb} {W W' : Wd} (l : Lk W W') {a : Addr} {xs : List V} (h : TupAt K W a xs) : TupAt K W' a xs := by
  rcases h with h | h
  · exact .inl (Rd.lk l h)
  · exact .inr h
mutual
theorem DRel.lk {K : Kb} {W W' : Wd} (l : Lk W W') : ∀ (d : D) (v : V), DRel K W d v → DRel K W' d v
  | .non, _, h => h
  | .bl _, _, h => h
  | .int _, _, h => h
  | .str _, _, h => h
  | .tup ds, _, h => by
    simp only [DRel] at h ⊢
    obtain ⟨a, xs, e, t, r⟩ := h
    exact ⟨a, xs, e, t.lk l, DRels.lk l ds xs r⟩
  | .lst ds, _, h => by
    simp only [DRel] at h ⊢
    obtain ⟨a, xs, e, t, r⟩ := h
    exact ⟨a, xs, e, t.lk l, DRels.lk l ds xs r⟩
  | .obj i, _, h => by
    simp only [DRel] at h ⊢
    obtain ⟨a, e, t⟩ := h
    obtain ⟨r, q⟩ := l.pre
    refine ⟨a, e, ?_⟩
    have hi : i < W.mu.l.length := by
      by_cases hi : i < W.mu.l.length
      · exact hi
      · rw [List.getElem?_eq_none (by omega)] at t; cases t
    rw [q, List.getElem?_append_left hi]
    exact t
  | .exn c ns ds, _, h => by
    simp only [DRel] at h ⊢
    obtain ⟨a, cls, od, h1, h2, h3, h4⟩ := h
    refine ⟨a, cls, od, h1, h2, h3, ?_⟩
    rcases h4 with h4 | ⟨dx, xs, g1, g2, g3, g4, g5⟩
    · exact .inl h4
    · exact .inr ⟨dx, xs, g1, (l.keep dx _ g3 g2).2, (l.keep dx _ g3 g2).1, g4, DRels.lk l ds xs g5⟩
  | .ins c ns ds, _, h => by
    simp only [DRel] at h ⊢
    obtain ⟨a, C, dx, xs, e, hC, h1, f1, h2, f2, hl, r⟩ := h
    exact ⟨a, C, dx, xs, e, hC, (l.keep a _ h1 f1).1, (l.keep a _ h1 f1).2, (l.keep dx _ h2 f2).1, (l.keep dx _ h2 f2).2, hl, DRels.lk l ds xs r⟩
theorem DRels.lk {K : Kb} {W W' : Wd} (l : Lk W W') : ∀ (ds : List D) (vs : List V), DRels K W ds vs → DRels K W' ds vs
  | [], _, h => h
  | d :: ds, _, h => by
    simp only [DRels] at h ⊢
    obtain ⟨v, r, e, h1, h2⟩ := h
    exact ⟨v, r, e, DRel.lk l d v h1, DRels.lk l ds r h2⟩
end
theorem DRel.le {K : Kb} {W W' : Wd} (l : Le W W') (d : D) (v : V) (h : DRel K W d v) : DRel K W' d v := DRel.lk l.toLk d v h
theorem DRels.le {K : Kb} {W W' : Wd} (l : Le W W') (ds : List D) (vs : List V) (h : DRels K W ds vs) : DRels K W' ds vs := DRels.lk l.toLk ds vs h
theorem DRels.length {K : Kb} {W : Wd} : ∀ {ds : List D} {vs : List V}, DRels K W ds vs → ds.length = vs.length
  | [], _, h => by simp only [DRels] at h; subst h; rfl
  | d :: ds, _, h => by
    simp only [DRels] at h
    obtain ⟨v, r, rfl, _, h2⟩ := h
    simp [DRels.length h2]
theorem DRels.get {K : Kb} {W : Wd} : ∀ {ds : List D} {vs : List V} {i : Nat} {d : D}, DRels K W ds vs → ds[i]? = some d → ∃ v, vs[i]? = some v ∧ DRel K W d v
  | [], _, _, _, _, e => by simp at e
  | d :: ds, _, i, d', h, e => by
    simp only [DRels] at h
    obtain ⟨v, r, rfl, h1, h2⟩ := h
    cases i with
    | zero => simp at e; subst e; exact ⟨v, rfl, h1⟩
    | succ i => simpa using DRels.get (i := i) h2 (by simpa using e)
theorem DRels.append {K : Kb} {W : Wd} : ∀ {ds es : List D} {vs ws : List V}, DRels K W ds vs → DRels K W es ws → DRels K W (ds ++ es) (vs ++ ws)
  | [], _, _, _, h, h' => by simp only [DRels] at h; subst h; exact h'
  | d :: ds, es, _, ws, h, h' => by
    simp only [DRels] at h
    obtain ⟨v, r, rfl, h1, h2⟩ := h
    simp only [List.cons_append, DRels]
    exact ⟨v, _, rfl, h1, DRels.append h2 h'⟩
theorem DRels.drop {K : Kb} {W : Wd} : ∀ {ds : List D} {vs : List V} (n : Nat), DRels K W ds vs → DRels K W (ds.drop n) (vs.drop n)
  | _, _, 0, h => h
  | [], _, n + 1, h => by simp only [DRels] at h; subst h; simp [DRels]
  | d :: ds, _, n + 1, h => by
    simp only [DRels] at h
    obtain ⟨v, r, rfl, h1, h2⟩ := h
    exact DRels.drop n h2
theorem DRels.take {K : Kb} {W : Wd} : ∀ {ds : List D} {vs : List V} (n : Nat), DRels K W ds vs → DRels K W (ds.take n) (vs.take n)
  | _, _, 0, h => by simp [DRels]
  | [], _, n + 1, h => by simp only [DRels] at h; subst h; simp [DRels]
  | d :: ds, _, n + 1, h => by
    simp only [DRels] at h
    obtain ⟨v, r, rfl, h1, h2⟩ := h
    simp only [List.take_succ_cons, DRels]
    exact ⟨v, _, rfl, h1, DRels.take n h2⟩
theorem DRels.set {K : Kb} {W : Wd} {d : D} {v : V} (hd : DRel K W d v) : ∀ {ds : List D} {vs : List V} (i : Nat), DRels K W ds vs → DRels K W (ds.set i d) (vs.set i v)
  | [], _, _, h => by simp only [DRels] at h; subst h; simp [DRels]
  | e :: ds, _, 0, h => by
    simp only [DRels] at h
    obtain ⟨w, r, rfl, h1, h2⟩ := h
    simp only [List.set_cons_zero, DRels]
    exact ⟨v, r, rfl, hd, h2⟩
  | e :: ds, _, i + 1, h => by
    simp only [DRels] at h
    obtain ⟨w, r, rfl, h1, h2⟩ := h
    simp only [List.set_cons_succ, DRels]
    exact ⟨w, _, rfl, h1, DRels.set hd i h2⟩
theorem DRels.reverse {K : Kb} {W : Wd} : ∀ {ds : List D} {vs : List V}, DRels K W ds vs → DRels K W ds.reverse vs.reverse
  | [], _, h => by simp only [DRels] at h; subst h; simp [DRels]
  | e :: ds, _, h => by
    simp only [DRels] at h
    obtain ⟨w, r, rfl, h1, h2⟩ := h
    simp only [List.reverse_cons]
    refine DRels.append (DRels.reverse h2) ?_
    simp only [DRels]
    exact ⟨w, [], rfl, h1, rfl⟩

/-! ### the mutable objects -/
/-- a dict whose keys are tuples, its entries (key, where the key's tuple stands, value) -/
def DctO (P : Program) (w : World) (a : Addr) (xs : List (NestedKey × Addr × Value)) : HO := .ext fun h => ∃ o es ep, h.get? a = some o ∧ o.ExactDict ∧ o.data = .dict es ep ∧ es.toList = xs.map (entryOfKey (nestedKind P w))
def KVR (K : Kb) (W : Wd) (i : Nat) (p : D × D) (x : NestedKey × Addr × Value) : Prop := D.isKey p.1 = true ∧ x.1 = D.toK p.1 ∧ DRel K W p.1 (.ref x.2.1) ∧ (∃ v, DRel K W p.2 v ∧ RelV v x.2.2) ∧ D.bel i p.2 = true
/-- a number or a text as a key -/
def D.key1 : D → Option Key
  | .int i => some (.inl i)
  | .str x => some (.inr ⟨x.toArray⟩)
  | _ => none
def KSR (K : Kb) (W : Wd) (i : Nat) (p : D × D) (x : Key × V) : Prop := D.key1 p.1 = some x.1 ∧ DRel K W p.2 x.2 ∧ D.bel i p.2 = true
/-- a field -/
def FRel (K : Kb) (W : Wd) (p : Str × D) (q : Str × V) : Prop := p.1 = q.1 ∧ DRel K W p.2 q.2
/-- a dict that may be written, or one that is never written again -/
def LkH (W : Wd) (a : Addr) (lk : Bool) (u : HO) : Prop := if lk = true then a ∈ W.mu.k ∧ ∃ od, W.H a = some (.frz od u) else a ∉ W.mu.k ∧ W.H a = some u
theorem LkH.there {W : Wd} {a : Addr} {lk : Bool} {u : HO} (h : LkH W a lk u) : ∃ u, W.H a = some u := by
  cases lk with
  | true => obtain ⟨_, od, h⟩ := (show _ ∧ _ from h); exact ⟨_, h⟩
  | false => exact ⟨_, (show _ ∧ _ from h).2⟩
theorem LkH.rd {W : Wd} {a : Addr} {lk : Bool} {u : HO} (h : LkH W a lk u) : Rd W.H a u := by
  cases lk with
  | true => obtain ⟨_, od, h⟩ := (show _ ∧ _ from h); exact .inr ⟨od, h⟩
  | false => exact .inl (show _ ∧ _ from h).2
theorem LkH.lk {W W' : Wd} {a : Addr} {lk : Bool} {u : HO} (e : W'.H a = W.H a) (k : a ∈ W'.mu.k ↔ a ∈ W.mu.k) (h : LkH W a lk u) : LkH W' a lk u := by
  cases lk with
  | true =>
    obtain ⟨h1, od, h2⟩ := (show _ ∧ _ from h)
    exact ⟨k.mpr h1, od, e.trans h2⟩
  | false =>
    obtain ⟨h1, h2⟩ := (show _ ∧ _ from h)
    exact ⟨fun z => h1 (k.mp z), e.trans h2⟩
def ORel (K : Kb) (W : Wd) (i : Nat) (a : Addr) : MO → Prop
  | .lst l => ∃ xs, W.H a = some (.lst xs) ∧ DRels K W l xs ∧ D.bels i l = true ∧ a ∉ W.mu.k
  | .dct lk l => ∃ xs, LkH W a lk (DctO K.P K.w a xs) ∧ (xs.map (·.1)).Nodup ∧ xs.length ≤ sizeLine ∧ (a == sysModules) = false ∧ Paired (KVR K W i) l xs
  | .dks lk l => ∃ kvs, LkH W a lk (.dK kvs) ∧ Paired (KSR K W i) l kvs
  | .ins c fs => ∃ C dx xs, K.mg c = some (.ref C) ∧ W.H a = some (.ins C dx xs) ∧ a ∉ W.mu.k ∧ W.H dx = some (.own a) ∧ Fz W dx ∧ Paired (FRel K W) fs xs ∧ D.bels i (fs.map (·.2)) = true
theorem KVR.lk {K : Kb} {W W' : Wd} (l : Lk W W') {i : Nat} {p : D × D} {x : NestedKey × Addr × Value} (h : KVR K W i p x) : KVR K W' i p x := by
  obtain ⟨h1, h2, h3, ⟨v, h4, h5⟩, h6⟩ := h
  exact ⟨h1, h2, DRel.lk l _ _ h3, ⟨v, DRel.lk l _ _ h4, h5⟩, h6⟩
theorem KSR.lk {K : Kb} {W W' : Wd} (l : Lk W W') {i : Nat} {p : D × D} {x : Key × V} (h : KSR K W i p x) : KSR K W' i p x := ⟨h.1, DRel.lk l _ _ h.2.1, h.2.2⟩
theorem FRel.lk {K : Kb} {W W' : Wd} (l : Lk W W') {p : Str × D} {x : Str × V} (h : FRel K W p x) : FRel K W' p x := ⟨h.1, DRel.lk l _ _ h.2⟩
theorem ORel.lk {K : Kb} {W W' : Wd} (l : Lk W W') {i : Nat} {a : Addr} (e : W'.H a = W.H a) (k : a ∈ W'.mu.k ↔ a ∈ W.mu.k) : ∀ {o : MO}, ORel K W i a o → ORel K W' i a o
  | .lst l', ⟨xs, h1, h2, h3, h4⟩ => ⟨xs, e.trans h1, DRels.lk l l' xs h2, h3, fun z => h4 (k.mp z)⟩
  | .dct lk l', ⟨xs, h1, h2, h3, h4, h5⟩ => ⟨xs, h1.lk e k, h2, h3, h4, Paired.mapP h5 fun _ _ q => q.lk l⟩
  | .dks lk l', ⟨kvs, h1, h2⟩ => ⟨kvs, h1.lk e k, Paired.mapP h2 fun _ _ q => q.lk l⟩
  | .ins c fs, ⟨C, dx, xs, h1, h2, h3, h4, h5, h6, h7⟩ => ⟨C, dx, xs, h1, e.trans h2, fun z => h3 (k.mp z), (l.keep dx _ h4 h5).1, (l.keep dx _ h4 h5).2, Paired.mapP h6 fun _ _ q => q.lk l, h7⟩
structure MRel (K : Kb) (W : Wd) (M : Mem) : Prop where
  len : W.mu.l.length = M.length
  nd : W.mu.l.Nodup
  obj : ∀ i a o, W.mu.l[i]? = some a → M[i]? = some o → ORel K W i a o
  pv : ∀ a, a ∈ W.mu.p → (∃ u, W.H a = some u) ∧ a ∉ W.mu.l
  kk : ∀ a, a ∈ W.mu.k → (∃ u, W.H a = some u) ∧ a ∉ W.mu.p
theorem ORel.there {K : Kb} {W : Wd} {i : Nat} {a : Addr} : ∀ {o : MO}, ORel K W i a o → ∃ u, W.H a = some u
  | .lst _, ⟨xs, h, _⟩ => ⟨_, h⟩
  | .dct _ _, ⟨xs, h, _⟩ => h.there
  | .dks _ _, ⟨xs, h, _⟩ => h.there
  | .ins _ _, ⟨_, _, _, _, h, _⟩ => ⟨_, h⟩
theorem MRel.there {K : Kb} {W : Wd} {M : Mem} (m : MRel K W M) {a : Addr} (h : a ∈ W.mu.l) : ∃ u, W.H a = some u := by
  obtain ⟨i, hi⟩ := List.getElem?_of_mem h
  have hl : i < M.length := by
    rw [← m.len]
    by_cases q : i < W.mu.l.length
    · exact q
    · rw [List.getElem?_eq_none (by omega)] at hi; cases hi
  exact (m.obj i a M[i] hi (List.getElem?_eq_getElem hl)).there
theorem MRel.fresh {K : Kb} {W : Wd} {M : Mem} (m : MRel K W M) {a : Addr} (h : W.H a = none) : Fz W a := by
  refine ⟨.inl fun q => ?_, fun q => ?_⟩
  · obtain ⟨u, e⟩ := m.there q
    rw [h] at e; cases e
  · obtain ⟨⟨u, e⟩, _⟩ := m.pv a q
    rw [h] at e; cases e
/-- what the mutable objects say stays while data stay and they are not written -/
theorem MRel.fzk {K : Kb} {W : Wd} {M : Mem} (m : MRel K W M) {a : Addr} (h : a ∈ W.mu.k) : Fz W a := ⟨.inr h, (m.kk a h).2⟩
theorem MRel.nok {K : Kb} {W : Wd} {M : Mem} (m : MRel K W M) {a : Addr} (h : W.H a = none) : a ∉ W.mu.k := fun q => by
  obtain ⟨⟨u, e⟩, _⟩ := m.kk a q
  rw [h] at e; cases e
theorem MRel.lk {K : Kb} {W W' : Wd} {M : Mem} (m : MRel K W M) (l : Lk W W') (e : W'.mu.l = W.mu.l) (ek : W'.mu.k = W.mu.k) (h : ∀ a, a ∈ W.mu.l → W'.H a = W.H a) (hp : ∀ a, a ∈ W'.mu.p → (∃ u, W'.H a = some u) ∧ a ∉ W.mu.l) : MRel K W' M := by
  refine ⟨by rw [e]; exact m.len, by rw [e]; exact m.nd, fun i a o h1 h2 => ?_, fun a ha => ⟨(hp a ha).1, by rw [e]; exact (hp a ha).2⟩, fun a ha => ?_⟩
  · rw [e] at h1
    exact (m.obj i a o h1 h2).lk l (h a (List.mem_of_getElem? h1)) (by rw [ek])
  · rw [ek] at ha
    obtain ⟨⟨u, eu⟩, _⟩ := m.kk a ha
    have := l.keep a u eu (m.fzk ha)
    exact ⟨⟨u, this.1⟩, this.2.2⟩
/-- a new object that is no mutable one -/
theorem MRel.laid {K : Kb} {W : Wd} {M : Mem} (m : MRel K W M) {p : Addr} (hp : W.H p = none) (o : HO) : Le W ⟨upd W.H p o, W.mu⟩ ∧ MRel K ⟨upd W.H p o, W.mu⟩ M := by
  have ne : ∀ {a : Addr} {u : HO}, W.H a = some u → upd W.H p o a = some u := fun {a u} h => by
    rw [upd_ne (ne_of_none h hp)]; exact h
  have le : Le W ⟨upd W.H p o, W.mu⟩ := ⟨⟨⟨[], by simp⟩, fun a u h n => ⟨ne h, n⟩⟩, rfl, fun a ha => by
    obtain ⟨⟨u, e⟩, _⟩ := m.pv a ha
    rw [e]; exact ne e⟩
  refine ⟨le, m.lk le.toLk rfl rfl (fun a ha => ?_) fun a ha => ?_⟩
  · obtain ⟨u, e⟩ := m.there ha
    rw [e]; exact ne e
  · obtain ⟨⟨u, e⟩, q⟩ := m.pv a ha
    exact ⟨⟨u, ne e⟩, q⟩
/-- a new mutable list -/
theorem MRel.bornO {K : Kb} {W : Wd} {M : Mem} (m : MRel K W M) {p : Addr} (hp : W.H p = none) (o : HO) (mo : MO) (new : ∀ W', Lk W W' → W'.H p = some o → p ∉ W'.mu.k → ORel K W' M.length p mo) :
    Le W ⟨upd W.H p o, ⟨W.mu.l ++ [p], W.mu.p, W.mu.k⟩⟩ ∧ MRel K ⟨upd W.H p o, ⟨W.mu.l ++ [p], W.mu.p, W.mu.k⟩⟩ (M ++ [mo]) := by
  have np := m.fresh hp
  have ne : ∀ {a : Addr} {u : HO}, W.H a = some u → upd W.H p o a = some u := fun {a u} h => by
    rw [upd_ne (ne_of_none h hp)]; exact h
  have le : Le W ⟨upd W.H p o, ⟨W.mu.l ++ [p], W.mu.p, W.mu.k⟩⟩ := ⟨⟨⟨[p], rfl⟩, fun a u h n => ⟨ne h, by
    refine ⟨n.1.imp_left fun n1 => ?_, n.2⟩
    show a ∉ W.mu.l ++ [p]
    simp only [List.mem_append, List.mem_singleton, not_or]
    exact ⟨n1, ne_of_none h hp⟩⟩⟩, rfl, fun a ha => by
    obtain ⟨⟨u, e⟩, _⟩ := m.pv a ha
    rw [e]; exact ne e⟩
  have npl : p ∉ W.mu.l := fun q => by
    obtain ⟨u, e⟩ := m.there q
    rw [hp] at e; cases e
  refine ⟨le, by simp [m.len], ?_, fun i a u h1 h2 => ?_, fun a ha => ?_, fun a ha => ?_⟩
  · show (W.mu.l ++ [p]).Nodup
    rw [List.nodup_append]
    refine ⟨m.nd, by simp, ?_⟩
    intro x hx y hy e
    simp only [List.mem_singleton] at hy
    subst hy; subst e; exact npl hx
  · have h1 : (W.mu.l ++ [p])[i]? = some a := h1
    by_cases hi : i < W.mu.l.length
    · rw [List.getElem?_append_left hi] at h1
      rw [List.getElem?_append_left (by rw [← m.len]; exact hi)] at h2
      obtain ⟨z, ez⟩ := (m.obj i a u h1 h2).there
      exact (m.obj i a u h1 h2).lk le.toLk (by rw [ez]; exact ne ez) Iff.rfl
    · have e : i = W.mu.l.length := by
        have : i < (W.mu.l ++ [p]).length := by
          by_cases q : i < (W.mu.l ++ [p]).length
          · exact q
          · rw [List.getElem?_eq_none (by omega)] at h1; cases h1
        simp at this
        omega
      subst e
      rw [List.getElem?_append_right (Nat.le_refl _)] at h1
      rw [m.len, List.getElem?_append_right (Nat.le_refl _)] at h2
      simp at h1 h2
      subst h1; subst h2
      rw [m.len]
      exact new _ le.toLk upd_same (m.nok hp)
  · obtain ⟨⟨u, e⟩, q⟩ := m.pv a ha
    refine ⟨⟨u, ne e⟩, ?_⟩
    show a ∉ W.mu.l ++ [p]
    simp only [List.mem_append, List.mem_singleton, not_or]
    exact ⟨q, ne_of_none e hp⟩
  · obtain ⟨⟨u, e⟩, q⟩ := m.kk a ha
    exact ⟨⟨u, ne e⟩, q⟩
theorem MRel.born {K : Kb} {W : Wd} {M : Mem} (m : MRel K W M) {p : Addr} (hp : W.H p = none) {l : List D} {xs : List V} (r : DRels K W l xs) (b : D.bels M.length l = true) :
    Le W ⟨upd W.H p (.lst xs), ⟨W.mu.l ++ [p], W.mu.p, W.mu.k⟩⟩ ∧ MRel K ⟨upd W.H p (.lst xs), ⟨W.mu.l ++ [p], W.mu.p, W.mu.k⟩⟩ (M ++ [.lst l]) :=
  m.bornO hp _ _ fun W' lk e k => ⟨xs, e, DRels.lk lk l xs r, b, k⟩
theorem bels_get {n : Nat} : ∀ {l : List D} {i : Nat} {d : D}, D.bels n l = true → l[i]? = some d → D.bel n d = true
  | [], _, _, _, e => by simp at e
  | d :: ds, i, d', h, e => by
    simp only [D.bels, Bool.and_eq_true] at h
    cases i with
    | zero => simp at e; subst e; exact h.1
    | succ i => exact bels_get (i := i) h.2 (by simpa using e)
/-- data leaning on objects below n stays while these stand -/
structure Lo (n : Nat) (W W' : Wd) : Prop where
  mu : ∀ i, i < n → W'.mu.l[i]? = W.mu.l[i]?
  keep : ∀ a o, W.H a = some o → Fz W a → W'.H a = some o ∧ Fz W' a
mutual
theorem DRel.lo {K : Kb} {n : Nat} {W W' : Wd} (l : Lo n W W') : ∀ (d : D) (v : V), D.bel n d = true → DRel K W d v → DRel K W' d v
  | .non, _, _, h => h
  | .bl _, _, _, h => h
  | .int _, _, _, h => h
  | .str _, _, _, h => h
  | .tup ds, _, b, h => by
    simp only [DRel] at h ⊢
    simp only [D.bel] at b
    obtain ⟨a, xs, e, t, r⟩ := h
    refine ⟨a, xs, e, ?_, DRels.lo l ds xs b r⟩
    rcases t with ⟨t | ⟨o, t⟩, nn⟩ | t
    · exact .inl ⟨.inl (l.keep a _ t nn).1, (l.keep a _ t nn).2⟩
    · exact .inl ⟨.inr ⟨o, (l.keep a _ t nn).1⟩, (l.keep a _ t nn).2⟩
    · exact .inr t
  | .lst ds, _, b, h => by
    simp only [DRel] at h ⊢
    simp only [D.bel] at b
    obtain ⟨a, xs, e, t, r⟩ := h
    refine ⟨a, xs, e, ?_, DRels.lo l ds xs b r⟩
    rcases t with ⟨t | ⟨o, t⟩, nn⟩ | t
    · exact .inl ⟨.inl (l.keep a _ t nn).1, (l.keep a _ t nn).2⟩
    · exact .inl ⟨.inr ⟨o, (l.keep a _ t nn).1⟩, (l.keep a _ t nn).2⟩
    · exact .inr t
  | .obj i, _, b, h => by
    simp only [DRel] at h ⊢
    simp only [D.bel, decide_eq_true_eq] at b
    obtain ⟨a, e, t⟩ := h
    exact ⟨a, e, by rw [l.mu i b]; exact t⟩
  | .exn c ns ds, _, b, h => by simp [D.bel] at b
  | .ins c ns ds, _, b, h => by
    simp only [DRel] at h ⊢
    simp only [D.bel] at b
    obtain ⟨a, C, dx, xs, e, hC, h1, f1, h2, f2, hl, r⟩ := h
    exact ⟨a, C, dx, xs, e, hC, (l.keep a _ h1 f1).1, (l.keep a _ h1 f1).2, (l.keep dx _ h2 f2).1, (l.keep dx _ h2 f2).2, hl, DRels.lo l ds xs b r⟩
theorem DRels.lo {K : Kb} {n : Nat} {W W' : Wd} (l : Lo n W W') : ∀ (ds : List D) (vs : List V), D.bels n ds = true → DRels K W ds vs → DRels K W' ds vs
  | [], _, _, h => h
  | d :: ds, _, b, h => by
    simp only [DRels] at h ⊢
    simp only [D.bels, Bool.and_eq_true] at b
    obtain ⟨v, r, e, h1, h2⟩ := h
    exact ⟨v, r, e, DRel.lo l d v b.1 h1, DRels.lo l ds r b.2 h2⟩
end
/-- a mutable list written -/
theorem MRel.wroteO {K : Kb} {W : Wd} {M : Mem} (m : MRel K W M) {i : Nat} {a : Addr} (ha : W.mu.l[i]? = some a) (hk : a ∉ W.mu.k) (o : HO) (mo : MO) (new : ∀ W', Lk W W' → W'.H a = some o → a ∉ W'.mu.k → ORel K W' i a mo) :
    Le W ⟨upd W.H a o, W.mu⟩ ∧ MRel K ⟨upd W.H a o, W.mu⟩ (M.set i mo) := by
  have hm : a ∈ W.mu.l := List.mem_of_getElem? ha
  have hi : i < W.mu.l.length := by
    by_cases q : i < W.mu.l.length
    · exact q
    · rw [List.getElem?_eq_none (by omega)] at ha; cases ha
  have npv : ∀ c, c ∈ W.mu.p → c ≠ a := fun c hc e => (m.pv c hc).2 (e ▸ hm)
  have le : Le W ⟨upd W.H a o, W.mu⟩ := ⟨⟨⟨[], by simp⟩, fun c u h n => ⟨by
    show upd W.H a _ c = some u
    rw [upd_ne (by rintro rfl; exact n.1.elim (fun z => z hm) hk)]; exact h, n⟩⟩, rfl, fun c hc => upd_ne (npv c hc)⟩
  refine ⟨le, by simp [m.len], m.nd, fun j c u h1 h2 => ?_, fun c hc => ?_, fun c hc => ?_⟩
  · by_cases hj : j = i
    · subst hj
      rw [List.getElem?_set_self (by rw [← m.len]; exact hi)] at h2
      cases h2
      have h1 : W.mu.l[j]? = some c := h1
      rw [ha] at h1; cases h1
      exact new _ le.toLk upd_same hk
    · rw [List.getElem?_set_ne (Ne.symm hj)] at h2
      refine (m.obj j c u h1 h2).lk le.toLk ?_ Iff.rfl
      show upd W.H a _ c = _
      rw [upd_ne fun z => hj ?_]
      subst z
      have h1 : W.mu.l[j]? = some c := h1
      have hjl : j < W.mu.l.length := by
        by_cases q : j < W.mu.l.length
        · exact q
        · rw [List.getElem?_eq_none (by omega)] at h1; cases h1
      exact (List.getElem?_inj hjl m.nd).mp (h1.trans ha.symm)
  · obtain ⟨⟨u, e⟩, q⟩ := m.pv c hc
    exact ⟨⟨u, by show upd W.H a _ c = _; rw [upd_ne (npv c hc)]; exact e⟩, q⟩
  · obtain ⟨⟨u, e⟩, q⟩ := m.kk c hc
    exact ⟨⟨u, by show upd W.H a _ c = _; rw [upd_ne (by rintro rfl; exact hk hc)]; exact e⟩, q⟩
/-- a dict that is walked: never written again -/
theorem MRel.lockO {K : Kb} {W : Wd} {M : Mem} (m : MRel K W M) {i : Nat} {a : Addr} (ha : W.mu.l[i]? = some a) (hk : a ∉ W.mu.k) (o : HO) (mo : MO) (new : ∀ W', Lk W W' → W'.H a = some o → a ∈ W'.mu.k → ORel K W' i a mo) :
    Le W ⟨upd W.H a o, ⟨W.mu.l, W.mu.p, a :: W.mu.k⟩⟩ ∧ MRel K ⟨upd W.H a o, ⟨W.mu.l, W.mu.p, a :: W.mu.k⟩⟩ (M.set i mo) := by
  have hm : a ∈ W.mu.l := List.mem_of_getElem? ha
  have hi : i < W.mu.l.length := by
    by_cases q : i < W.mu.l.length
    · exact q
    · rw [List.getElem?_eq_none (by omega)] at ha; cases ha
  have npv : ∀ c, c ∈ W.mu.p → c ≠ a := fun c hc e => (m.pv c hc).2 (e ▸ hm)
  have le : Le W ⟨upd W.H a o, ⟨W.mu.l, W.mu.p, a :: W.mu.k⟩⟩ := ⟨⟨⟨[], by simp⟩, fun c u h n => ⟨by
    show upd W.H a _ c = some u
    rw [upd_ne (by rintro rfl; exact n.1.elim (fun z => z hm) hk)]; exact h, n.1.imp_right fun z => List.mem_cons_of_mem _ z, n.2⟩⟩, rfl, fun c hc => upd_ne (npv c hc)⟩
  refine ⟨le, by simp [m.len], m.nd, fun j c u h1 h2 => ?_, fun c hc => ?_, fun c hc => ?_⟩
  · by_cases hj : j = i
    · subst hj
      rw [List.getElem?_set_self (by rw [← m.len]; exact hi)] at h2
      cases h2
      have h1 : W.mu.l[j]? = some c := h1
      rw [ha] at h1; cases h1
      exact new _ le.toLk upd_same List.mem_cons_self
    · rw [List.getElem?_set_ne (Ne.symm hj)] at h2
      have hca : c ≠ a := fun z => hj (by
        subst z
        have h1 : W.mu.l[j]? = some c := h1
        have hjl : j < W.mu.l.length := by
          by_cases q : j < W.mu.l.length
          · exact q
          · rw [List.getElem?_eq_none (by omega)] at h1; cases h1
        exact (List.getElem?_inj hjl m.nd).mp (h1.trans ha.symm))
      exact (m.obj j c u h1 h2).lk le.toLk (upd_ne hca) (by simp [hca])
  · obtain ⟨⟨u, e⟩, q⟩ := m.pv c hc
    exact ⟨⟨u, by show upd W.H a _ c = _; rw [upd_ne (npv c hc)]; exact e⟩, q⟩
  · by_cases hca : c = a
    · subst hca
      exact ⟨⟨o, upd_same⟩, fun z => npv _ z rfl⟩
    · have hc : c ∈ W.mu.k := by simpa [hca] using hc
      obtain ⟨⟨u, e⟩, q⟩ := m.kk c hc
      exact ⟨⟨u, by show upd W.H a _ c = _; rw [upd_ne hca]; exact e⟩, q⟩
theorem MRel.wrote {K : Kb} {W : Wd} {M : Mem} (m : MRel K W M) {i : Nat} {a : Addr} (ha : W.mu.l[i]? = some a) (hk : a ∉ W.mu.k) {l : List D} {xs : List V} (r : DRels K W l xs) (b : D.bels i l = true) :
    Le W ⟨upd W.H a (.lst xs), W.mu⟩ ∧ MRel K ⟨upd W.H a (.lst xs), W.mu⟩ (M.set i (.lst l)) :=
  m.wroteO ha hk _ _ fun W' lk e k => ⟨xs, e, DRels.lk lk l xs r, b, k⟩
/-- the slots -/
abbrev EV := List (Option D)
structure SRel (K : Kb) (W : Wd) (s : L2.St) (r : EV) : Prop where
  len : s.length = r.length
  get : ∀ (i : Nat) (d : D), r[i]? = some (some d) → ∃ v, s[i]? = some (some v) ∧ DRel K W d v
theorem SRel.lk {K : Kb} {W W' : Wd} {s : L2.St} {r : EV} (l : Lk W W') (h : SRel K W s r) : SRel K W' s r :=
  ⟨h.len, fun i d e => let ⟨v, e1, q⟩ := h.get i d e; ⟨v, e1, DRel.lk l d v q⟩⟩
theorem SRel.le {K : Kb} {W W' : Wd} {s : L2.St} {r : EV} (l : Le W W') (h : SRel K W s r) : SRel K W' s r := h.lk l.toLk
theorem SRel.set {K : Kb} {W : Wd} {s : L2.St} {r : EV} {d : D} {v : V} (h : SRel K W s r) (q : DRel K W d v) (i : Nat) : SRel K W (s.set i (some v)) (r.set i (some d)) := by
  refine ⟨by simp [h.len], fun j e hj => ?_⟩
  by_cases hij : i = j
  · subst hij
    have hi : i < r.length := by
      by_cases z : i < r.length
      · exact z
      · rw [List.getElem?_eq_none (by simpa using z)] at hj; cases hj
    rw [List.getElem?_set_self hi] at hj
    cases hj
    exact ⟨v, by rw [List.getElem?_set_self (by rw [h.len]; exact hi)], q⟩
  · rw [List.getElem?_set_ne hij] at hj ⊢
    exact h.get j e hj
end RI

namespace RI
mutual
def D.beq : D → D → Bool
  | .non, .non => true
  | .bl a, .bl b => a == b
  | .int a, .int b => decide (a = b)
  | .str a, .str b => decide (a = b)
  | .tup a, .tup b => D.beqs a b
  | .lst a, .lst b => D.beqs a b
  | .obj a, .obj b => Nat.beq a b
  | .exn c ns ds, .exn c' ns' ds' => decide (c = c') && decide (ns = ns') && D.beqs ds ds'
  | .ins c ns ds, .ins c' ns' ds' => decide (c = c') && decide (ns = ns') && D.beqs ds ds'
  | _, _ => false
def D.beqs : List D → List D → Bool
  | [], [] => true
  | a :: as, b :: bs => D.beq a b && D.beqs as bs
  | _, _ => false
end
mutual
theorem D.of_beq : ∀ a b : D, D.beq a b = true → a = b
  | .non, b, h => by cases b <;> simp_all [D.beq]
  | .bl x, b, h => by cases b <;> simp_all [D.beq]
  | .int x, b, h => by cases b <;> simp_all [D.beq]
  | .str x, b, h => by cases b <;> simp_all [D.beq]
  | .tup x, b, h => by
    cases b with
    | tup y => simp only [D.beq] at h; rw [D.of_beqs x y h]
    | _ => simp [D.beq] at h
  | .lst x, b, h => by
    cases b with
    | lst y => simp only [D.beq] at h; rw [D.of_beqs x y h]
    | _ => simp [D.beq] at h
  | .obj x, b, h => by
    cases b with
    | obj y => simp only [D.beq] at h; rw [Nat.eq_of_beq_eq_true h]
    | _ => simp [D.beq] at h
  | .exn c ns ds, b, h => by
    cases b with
    | exn c' ns' ds' =>
      simp only [D.beq, Bool.and_eq_true, decide_eq_true_eq] at h
      rw [h.1.1, h.1.2, D.of_beqs ds ds' h.2]
    | _ => simp [D.beq] at h
  | .ins c ns ds, b, h => by
    cases b with
    | ins c' ns' ds' =>
      simp only [D.beq, Bool.and_eq_true, decide_eq_true_eq] at h
      rw [h.1.1, h.1.2, D.of_beqs ds ds' h.2]
    | _ => simp [D.beq] at h
theorem D.of_beqs : ∀ a b : List D, D.beqs a b = true → a = b
  | [], b, h => by cases b <;> simp_all [D.beqs]
  | x :: xs, b, h => by
    cases b with
    | nil => simp [D.beqs] at h
    | cons y ys =>
      simp only [D.beqs, Bool.and_eq_true] at h
      rw [D.of_beq x y h.1, D.of_beqs xs ys h.2]
end
mutual
theorem D.beq_self : ∀ a : D, D.beq a a = true
  | .non => rfl
  | .bl x => by simp [D.beq]
  | .int x => by simp [D.beq]
  | .str x => by simp [D.beq]
  | .tup x => by simp only [D.beq]; exact D.beqs_self x
  | .lst x => by simp only [D.beq]; exact D.beqs_self x
  | .obj x => by simp [D.beq]
  | .exn c ns ds => by simp only [D.beq, D.beqs_self ds, decide_true, Bool.and_self]
  | .ins c ns ds => by simp only [D.beq, D.beqs_self ds, decide_true, Bool.and_self]
theorem D.beqs_self : ∀ a : List D, D.beqs a a = true
  | [] => rfl
  | x :: xs => by simp only [D.beqs, D.beq_self x, D.beqs_self xs, Bool.and_self]
end
end RI

set_option maxHeartbeats 4000000
namespace RI
open PySem PySem.Spec PyProof.Rows L2

/-! ### what is wanted of a meaning -/
/-- with the wish about exceptions; the slots that stand now -/
structure Kx where
  b : Kb
  xw : Ex → L2.St → Wd → Prop
  cur : L2.St
instance : Coe Kx Kb := ⟨Kx.b⟩
abbrev Kx.at (K : Kx) (s : L2.St) : Kx := ⟨K.b, K.xw, s⟩
abbrev Kb.no (K : Kb) : Kx := ⟨K, fun _ _ _ => False, []⟩
def Sat {A : Type} (K : Kx) (W : Wd) (r : Res A) (P : A → Mem → Wd → Prop) : Prop := match r with
  | .ok a M => ∀ W', Le W W' → MRel K.b W' M → P a M W'
  | .exc x M => ∀ W', Le W W' → MRel K.b W' M → K.xw x K.cur W'
  | .bad => False
theorem Sat.imp {A : Type} {K : Kx} {W : Wd} {r : Res A} {P P' : A → Mem → Wd → Prop} (h : Sat K W r P) (f : ∀ a M W', Le W W' → MRel K.b W' M → P a M W' → P' a M W') : Sat K W r P' := by
  cases r with
  | ok a M => exact fun W' l m => f a M W' l m (h W' l m)
  | exc x M => exact h
  | bad => exact h
theorem Sat.le {A : Type} {K : Kx} {W W1 : Wd} {r : Res A} {P : A → Mem → Wd → Prop} (h : Sat K W r P) (l : Le W W1) : Sat K W1 r P := by
  cases r with
  | ok a M => exact fun W' l' m => h W' (l.trans l') m
  | exc x M => exact fun W' l' m => h W' (l.trans l') m
  | bad => exact h
theorem Sat.bind {A B : Type} {K : Kx} {W : Wd} {r : Res A} {f : A → Mem → Res B} {P : B → Mem → Wd → Prop} (h : Sat K W (r.bind f) P) : Sat K W r (fun a M1 W1 => Sat K W1 (f a M1) P) := by
  cases r with
  | ok a M => exact fun W' l m => Sat.le h l
  | exc x M => exact h
  | bad => exact h
theorem Sat.ok {A : Type} {K : Kx} {W : Wd} {a : A} {M : Mem} {P : A → Mem → Wd → Prop} (h : Sat K W (.ok a M) P) (m : MRel K.b W M) : P a M W := h W (Le.refl W) m
/-- what raises nothing has no wish -/
theorem Sat.noX {A : Type} {K : Kx} {W : Wd} {r : Res A} {P : A → Mem → Wd → Prop} (h : Sat K W r.noX P) : Sat K.b.no W r P := by
  cases r with
  | ok a M => exact h
  | exc x M => exact h.elim
  | bad => exact h
theorem Sat.up {A : Type} {K : Kx} {W : Wd} {r : Res A} {P : A → Mem → Wd → Prop} (h : Sat K.b.no W r P) : Sat K W r P := by
  cases r with
  | ok a M => exact h
  | exc x M => exact fun W' l m => (h W' l m).elim
  | bad => exact h
abbrev PV (K : Kb) (Q : VK) : D → Mem → Wd → Prop := fun d _ W => ∀ v, DRel K W d v → Q v W.H
abbrev PVs (K : Kb) (Q : List V → Hp → Prop) : List D → Mem → Wd → Prop := fun ds _ W => ∀ vs, DRels K W ds vs → Q vs W.H
abbrev PB (Q : Bool → Hp → Prop) : Bool → Mem → Wd → Prop := fun b _ W => Q b W.H
abbrev PR (K : Kb) (Q : L2.St → Hp → Prop) : EV → Mem → Wd → Prop := fun r _ W => ∀ s, SRel K W s r → Q s W.H

abbrev FT := Nat → List D → Mem → Res D
abbrev ME := FT → EV → Mem → Res D
abbrev MT := FT → EV → Mem → Res Bool
abbrev MA := FT → EV → Mem → Res (List D)
inductive Fl where
  | next (r : EV) | ret (d : D) | brk (r : EV) | cont (r : EV) | rse (x : Ex) (r : EV)
abbrev MS := FT → EV → Mem → Res Fl
abbrev MG := FT → D → EV → Mem → Res EV
abbrev MGs := FT → List D → EV → Mem → Res EV
def PF (K : Kx) (Dn : Ends) : Fl → Mem → Wd → Prop := fun f _ W => match f with
  | .next r => ∀ s, SRel K W s r → Dn.nx s W.H
  | .brk r => ∀ s, SRel K W s r → Dn.bk s W.H
  | .cont r => ∀ s, SRel K W s r → Dn.ct s W.H
  | .ret d => ∀ v, DRel K W d v → Dn.rt v W.H
  | .rse x r => ∀ s, SRel K W s r → K.xw x s W
/-- at a statement: an exception leaves with the slots that stand -/
def Res.toS {A : Type} (r : Res A) (e : EV) (f : A → Mem → Res Fl) : Res Fl := match r with
  | .ok a M => f a M
  | .exc x M => .ok (.rse x e) M
  | .bad => .bad
@[simp] theorem Res.toS_ok {A : Type} (a : A) (M : Mem) (e : EV) (f : A → Mem → Res Fl) : (Res.ok a M).toS e f = f a M := rfl
@[simp] theorem Res.toS_exc {A : Type} (x : Ex) (M : Mem) (e : EV) (f : A → Mem → Res Fl) : (Res.exc x M).toS e f = .ok (.rse x e) M := rfl
@[simp] theorem Res.toS_bad {A : Type} (e : EV) (f : A → Mem → Res Fl) : (Res.bad : Res A).toS e f = .bad := rfl
theorem Sat.toS {A : Type} {K : Kx} {W : Wd} {r : Res A} {e : EV} {f : A → Mem → Res Fl} {Dn : Ends} {s : L2.St} (h : Sat K.b.no W (r.toS e f) (PF K Dn)) (sr : SRel K W s e) : Sat (K.at s) W r (fun a M1 W1 => Sat K.b.no W1 (f a M1) (PF K Dn)) := by
  cases r with
  | ok a M => exact fun W' l m => Sat.le h l
  | exc x M => exact fun W' l m => h W' l m s (sr.le l)
  | bad => exact h

def At (K : Kb) (s : L2.St) (H : Hp) (P : Mu → EV → Mem → Prop) : Prop := ∃ mu M r, MRel K ⟨H, mu⟩ M ∧ SRel K ⟨H, mu⟩ s r ∧ P mu r M
def rdE (K : Kx) (F : FT) (m : ME) : TE := fun s H Q => At K s H fun mu r M => Sat (K.at s) ⟨H, mu⟩ (m F r M) (PV K Q)
def rdT (K : Kx) (F : FT) (m : MT) : TT := fun s H Q => At K s H fun mu r M => Sat (K.at s) ⟨H, mu⟩ (m F r M) (PB Q)
def rdA (K : Kx) (F : FT) (m : MA) : TA := fun s H Q => At K s H fun mu r M => Sat (K.at s) ⟨H, mu⟩ (m F r M) (PVs K Q)
def rdS (K : Kx) (F : FT) (m : MS) : TS := fun Dn s H => At K s H fun mu r M => Sat K.b.no ⟨H, mu⟩ (m F r M) (PF K Dn)
/-- targets: the value is some data there -/
def rdG (K : Kx) (F : FT) (m : MG) : TG := fun v s H Q => At K s H fun mu r M => ∃ d, DRel K ⟨H, mu⟩ d v ∧ Sat K.b.no ⟨H, mu⟩ (m F d r M) (PR K Q)
def rdGs (K : Kx) (F : FT) (m : MGs) : TGs := fun vs s H Q => At K s H fun mu r M => ∃ ds, DRels K ⟨H, mu⟩ ds vs ∧ Sat K.b.no ⟨H, mu⟩ (m F ds r M) (PR K Q)

/-! ### tables and calls -/
/-- where a def stands: in the module, or in a class as its __init__, a method, a property -/
inductive Wh where
  | glob
  | init (c : Str)
  | meth (c : Str)
  | prop (c : Str)
  deriving DecidableEq
structure Fn where
  name : Str
  ps : List Str
  N : List Str
  body : MS
  keep : Bool
  wh : Wh := .glob
structure Tb where
  fns : List Fn
  con : List (Str × D)
  blt : List Str
  /-- exception classes without fields -/
  exs : List Str
  /-- (raised, named in a clause, whether it is caught) -/
  exm : List (Str × Str × Bool)
  /-- attributes of instances: (class, attribute) -/
  fld : List (Str × Str) := []
  /-- the module's dicts with text keys: numbers and texts -/
  kds : List (Str × List (List Nat × D)) := []
/-- what the text says of an exception class -/
def ExCls (K : PySem.W.Frag) (mg : Str → Option Value) (c : Str) : Prop := ∃ C : Addr, mg c = some (.ref C) ∧ PySem.W.keepIn K (.ref C) = true ∧ PySem.W.excIn K C [.type "ValueError", .type "Exception", .type "BaseException", .type "object"] "ValueError.__new__" = true ∧ PySem.W.subIn K (.ref C) (.type "BaseException") = some true ∧ PySem.W.typeIn K (.ref C) = some (.type "type")
def ExMat (K : PySem.W.Frag) (mg : Str → Option Value) (p : Str × Str × Bool) : Prop := ∃ C A : Addr, mg p.1 = some (.ref C) ∧ mg p.2.1 = some (.ref A) ∧ PySem.W.exmOne K (.ref C) (.ref A) = some p.2.2
def startE (N : List Str) (ds : List D) : EV := ds.map some ++ List.replicate (N.length - ds.length) none
def fin (keep : Bool) (mark : Nat) (d : D) (M : Mem) : Res D :=
  if keep then .ok d M else
    if D.bel mark (D.frz (frzM M mark 3) d) then .ok (D.frz (frzM M mark 3) d) (M.take mark) else .bad
/-- an exception's fields without objects that go -/
def finX (mark : Nat) (x : Ex) (M : Mem) : Res D :=
  if D.bels mark (D.frzs (frzM M mark 3) (x.fs.map (·.2))) then .exc ⟨x.cls, x.fs.map fun p => (p.1, D.frz (frzM M mark 3) p.2)⟩ (M.take mark) else .bad
def retOf (keep : Bool) (mark : Nat) : Res Fl → Res D
  | .ok (.ret d) M => fin keep mark d M
  | .ok (.next _) M => fin keep mark .non M
  | .ok (.rse x _) M => finX mark x M
  | _ => .bad
def callF (T : Tb) : Nat → FT
  | 0 => fun _ _ _ => .bad
  | n + 1 => fun k ds M => match T.fns[k]? with
    | none => .bad
    | some f => if ds.length = f.ps.length then retOf f.keep M.length (f.body (callF T n) (startE f.N ds) M) else .bad
/-- an exception as it stands: its class, its dict -/
def ExRel (K : Kb) (W : Wd) (x : Ex) (cls : Value) (d : Option Addr) : Prop := K.mg x.cls = some cls ∧ match d with
  | none => x.fs = []
  | some dx => Fz W dx ∧ ∃ fs, W.H dx = some (.xd fs) ∧ Paired (FRel K W) x.fs fs
/-- the wish of E, told by data -/
def xwOf (K : Kb) (E : XK) : Ex → L2.St → Wd → Prop := fun x _ W => ∀ cls d, ExRel K W x cls d → E cls d W.H
def spF (T : Tb) (K : Kb) (ps : List Str) (n k : Nat) : Sp := fun vs H Q E => vs.length = ps.length ∧ ∃ mu M ds, MRel K ⟨H, mu⟩ M ∧ DRels K ⟨H, mu⟩ ds vs ∧ Sat ⟨K, xwOf K E, []⟩ ⟨H, mu⟩ (callF T n k ds M) (PV K Q)

/-- what is known of data wherever it stands -/
def KRel (K : Kb) (d : D) (v : V) : Prop := ∀ W, DRel K W d v
/-- where code is compiled -/
structure CC where
  sc : Scope
  N : List Str
  fn : Str → Bool
  mt : List (Nat × Nat)
  calm : Bool
  /-- the def's own block -/
  top : Bool
/-- the exception that is handled -/
def hxOf (X : Cx) : Option (Addr × Value × Option Addr) := if X.calm = true then none else X.pn.head?.map fun p => (p.1, p.2.cls, p.2.dict)
abbrev kb (X : Cx) : Kb := ⟨X.K, X.prog, X.w, X.mg, hxOf X⟩
abbrev kb0 (X : Cx) : Kb := ⟨X.K, X.prog, X.w, X.mg, none⟩
abbrev kx (X : Cx) (wx : Ex → L2.St → Wd → Prop) : Kx := ⟨kb X, wx, []⟩
/-- the wish, as it is told of the heap -/
def wOf (X : Cx) (wx : Ex → L2.St → Wd → Prop) : WX := fun cls d σ H => ∃ x mu, ExRel (kb X) ⟨H, mu⟩ x cls d ∧ wx x σ ⟨H, mu⟩
def FnWh (K : PySem.W.Frag) (mg : Str → Option Value) (f : Fn) (a : Addr) : Prop := match f.wh with
  | .glob => mg f.name = some (.ref a) ∧ PySem.W.keepIn K (.ref a) = true
  | .init c => ∃ C : Addr, mg c = some (.ref C) ∧ Mk K C a
  | .meth c => ∃ C : Addr, mg c = some (.ref C) ∧ Cls K C ∧ Meth K C f.name a
  | .prop c => ∃ C p : Addr, mg c = some (.ref C) ∧ Cls K C ∧ PropOf K C f.name p a
def FldAt (K : PySem.W.Frag) (mg : Str → Option Value) (p : Str × Str) : Prop := ∃ C : Addr, mg p.1 = some (.ref C) ∧ Cls K C ∧ NoAttr K C p.2
def flatR : D → V → Prop
  | .int i, v => v = .int i
  | .str s, v => v = .str ⟨s.toArray⟩
  | _, _ => False
theorem flatR.d {K : Kb} {W : Wd} {d : D} {v : V} (h : flatR d v) : DRel K W d v := by
  cases d with
  | int i => exact h
  | str s => exact h
  | _ => exact h.elim
def KdAt (K : PySem.W.Frag) (w : World) (mg : Str → Option Value) (p : Str × List (List Nat × D)) : Prop := ∃ (d : Addr) (es : Array DictEntry) (n : Nat), mg p.1 = some (.ref d) ∧ KDict K w d es n ∧ ∀ z : List Nat, match p.2.lookup z with
  | some dd => ∃ u v, PySem.W.nsIn K d ⟨z.toArray⟩ = some (some u) ∧ RelV v u ∧ flatR dd v
  | none => PySem.W.nsIn K d ⟨z.toArray⟩ = some none
structure CxOk (T : Tb) (n : Nat) (C : CC) (X : Cx) (wx : Ex → L2.St → Wd → Prop) : Prop where
  sc : X.env.scope = C.sc
  N : X.N = C.N
  nd : X.N.Nodup
  fn : X.fn = C.fn
  kind : C.sc.kind = .function
  calm : X.calm = C.calm
  un : X.A.units + 200 < cLine
  room : C.calm = true → Room (2 * n + 1) X.A
  stk : C.top = true → X.stack = X.env :: X.outer ∧ X.env.frame = some X.env.locals
  pas : PassesOwn (model X.prog X.w) X.A X.env X.xe
  tk : Takes X (wOf X wx)
  con : ∀ x d, T.con.lookup x = some d → ∃ u v, X.mg x = some u ∧ RelV v u ∧ KRel (kb X) d v
  blt : ∀ x, x ∈ T.blt → X.mg x = none
  exs : ∀ c, c ∈ T.exs → ExCls X.K X.mg c
  exm : ∀ p, p ∈ T.exm → ExMat X.K X.mg p
  fns : ∀ k f, T.fns[k]? = some f → ∃ a fd, FnWh X.K X.mg f a ∧ Binds X.K fd f.ps [] ∧ FnOk X.prog X.w X.K X.mg X.base (L2.CX X.prog X.w) (2 * n) a fd f.ps (spF T (kb0 X) f.ps n k)
  fld : ∀ p, p ∈ T.fld → FldAt X.K X.mg p
  kds : ∀ p, p ∈ T.kds → KdAt X.K X.w X.mg p
theorem CxOk.kbq {T : Tb} {n : Nat} {C : CC} {X : Cx} {wx : Ex → L2.St → Wd → Prop} (h : CxOk T n C X wx) (hc : C.calm = true) : kb X = kb0 X := by
  have : hxOf X = none := if_pos (h.calm.trans hc)
  unfold kb kb0
  rw [this]
def OkE (T : Tb) (C : CC) (e : Expr) (m : ME) : Prop := ∀ n X wx, CxOk T n C X wx → PE X e (rdE (kx X wx) (callF T n) m)
def OkT (T : Tb) (C : CC) (e : Expr) (m : MT) : Prop := ∀ n X wx, CxOk T n C X wx → PT X e (rdT (kx X wx) (callF T n) m)
def OkA (T : Tb) (C : CC) (es : List Expr) (m : MA) : Prop := ∀ n X wx, CxOk T n C X wx → PA X es (rdA (kx X wx) (callF T n) m)
def OkS (T : Tb) (C : CC) (st : Stmt) (m : MS) : Prop := ∀ n X wx, CxOk T n C X wx → PS X st (rdS (kx X wx) (callF T n) m)
def OkSs (T : Tb) (C : CC) (st : List Stmt) (m : MS) : Prop := ∀ n X wx, CxOk T n C X wx → PSs X st (rdS (kx X wx) (callF T n) m)
def OkG (T : Tb) (C : CC) (e : Expr) (m : MG) : Prop := ∀ n X wx, CxOk T n C X wx → PG X e (rdG (kx X wx) (callF T n) m)
def OkGs (T : Tb) (C : CC) (es : List Expr) (m : MGs) : Prop := ∀ n X wx, CxOk T n C X wx → PGs X es (rdGs (kx X wx) (callF T n) m)

/-! ### a reading made stronger -/
theorem PE.of {X : Cx} {e : Expr} {t t' : TE} (h : PE X e t) (f : ∀ s H Q, t' s H Q → t s H Q) : PE X e t' := ⟨fun pins s σ H Q I q => h.run pins s σ H Q I (f σ H Q q)⟩
theorem PT.of {X : Cx} {e : Expr} {t t' : TT} (h : PT X e t) (f : ∀ s H Q, t' s H Q → t s H Q) : PT X e t' := ⟨fun pins s σ H Q I q => h.run pins s σ H Q I (f σ H Q q)⟩
theorem PA.of {X : Cx} {e : List Expr} {t t' : TA} (h : PA X e t) (f : ∀ s H Q, t' s H Q → t s H Q) : PA X e t' := ⟨fun pos pins s σ H Q I q => h.run pos pins s σ H Q I (f σ H Q q)⟩
theorem PS.of {X : Cx} {e : Stmt} {t t' : TS} (h : PS X e t) (f : ∀ D s H, t' D s H → t D s H) : PS X e t' := ⟨fun pins s σ H D I q => h.run pins s σ H D I (f D σ H q)⟩
theorem PSs.of {X : Cx} {e : List Stmt} {t t' : TS} (h : PSs X e t) (f : ∀ D s H, t' D s H → t D s H) : PSs X e t' := ⟨fun pins s σ H D I q => h.run pins s σ H D I (f D σ H q)⟩
theorem PG.of {X : Cx} {e : Expr} {t t' : TG} (h : PG X e t) (f : ∀ v s H Q, t' v s H Q → t v s H Q) : PG X e t' := ⟨fun pins s σ H v u Q I r q => h.run pins s σ H v u Q I r (f v σ H Q q)⟩
theorem PGs.of {X : Cx} {e : List Expr} {t t' : TGs} (h : PGs X e t) (f : ∀ v s H Q, t' v s H Q → t v s H Q) : PGs X e t' := ⟨fun pins s σ H v u Q I r q => h.run pins s σ H v u Q I r (f v σ H Q q)⟩

/-! ### names and constants -/
def mVar (i : Nat) : ME := fun _ r M => match r[i]? with
  | some (some d) => .ok d M
  | _ => .bad
def mC (d : D) : ME := fun _ _ M => .ok d M
variable {T : Tb} {C : CC}
theorem ok_var {i : Nat} {x : Str} {pos : Pos} (hN : C.N[i]? = some x) (hv : Vis C.sc x) (hd : (x == ("__debug__" : Str)) = false) (hcd : (x == ("__classdict__" : Str)) = false) : OkE T C (.Name x pos) (mVar i) := by
  intro n X wx h
  refine PE.of (pe_var (i := i) (by rw [h.N]; exact hN) (by rw [h.sc]; exact hv) hd hcd) fun s H Q q => ?_
  obtain ⟨mu, M, r, mr, sr, sat⟩ := q
  unfold mVar at sat
  split at sat
  · rename_i d e
    obtain ⟨v, ev, dv⟩ := sr.get i d e
    exact ⟨v, ev, sat.ok mr v dv⟩
  · exact sat.elim
theorem ok_c {e : Expr} {d : D} {v : V} (hp : ∀ X : Cx, PE X e (tC v)) (hd : ∀ K : Kb, KRel K d v) : OkE T C e (mC d) := by
  intro n X wx h
  refine PE.of (hp X) fun s H Q q => ?_
  obtain ⟨mu, M, r, mr, sr, sat⟩ := q
  exact sat.ok mr v (hd _ _)
theorem ok_int {i j pos} : OkE T C (.Constant (.int i) j pos) (mC (.int i)) := ok_c (v := .int i) (fun _ => pe_int) fun _ _ => rfl
theorem ok_bl {b j pos} : OkE T C (.Constant (.bool b) j pos) (mC (.bl b)) := ok_c (v := .bl b) (fun _ => pe_bl) fun _ _ => rfl
theorem ok_non {j pos} : OkE T C (.Constant .none j pos) (mC .non) := ok_c (v := .non) (fun _ => pe_non) fun _ _ => rfl
theorem ok_str {x : Str} {j pos} : OkE T C (.Constant (.str x) j pos) (mC (.str x.cps.toList)) := ok_c (v := .str x) (fun _ => pe_str) fun _ _ => by
  simp [DRel]
theorem ok_con {x : Str} {d : D} {pos : Pos} (hl : T.con.lookup x = some d) (hg : C.sc.names.lookup x = some .globalImplicit) (hd : (x == ("__debug__" : Str)) = false) : OkE T C (.Name x pos) (mC d) := by
  intro n X wx h
  obtain ⟨u, v, e, rv, kr⟩ := h.con x d hl
  refine PE.of (pe_glob (v := v) (by show X.env.kindOf x = _; unfold Env.kindOf; rw [h.sc]; exact hg) e rv hd) fun s H Q q => ?_
  obtain ⟨mu, M, r, mr, sr, sat⟩ := q
  exact sat.ok mr v (kr _)

/-! ### arguments and displays -/
def mNil : MA := fun _ _ M => .ok [] M
def mCons (m : ME) (ms : MA) : MA := fun F r M => (m F r M).bind fun d M1 => (ms F r M1).bind fun ds M2 => .ok (d :: ds) M2
theorem ok_anil : OkA T C [] mNil := by
  intro n X wx h
  refine PA.of pa_nil fun s H Q q => ?_
  obtain ⟨mu, M, r, mr, sr, sat⟩ := q
  exact sat.ok mr [] rfl
def noStar : Expr → Bool
  | .Starred .. => false
  | _ => true
theorem noStar_each {e : Expr} {es : List Expr} {env : Env} (h : noStar e = true) : starEach (e :: es) env = (false, eval e env) :: starEach es env := by
  cases e <;> first | rfl | (exact absurd h (by decide)) | cases h
theorem ok_acons {e : Expr} {es : List Expr} {m : ME} {ms : MA} (hs : noStar e = true) (h1 : OkE T C e m) (h2 : OkA T C es ms) : OkA T C (e :: es) (mCons m ms) := by
  intro n X wx h
  refine PA.of (pa_cons (h1 n X wx h) (h2 n X wx h) (noStar_each hs)) fun s H Q q => ?_
  obtain ⟨mu, M, r, mr, sr, sat⟩ := q
  refine ⟨mu, M, r, mr, sr, sat.bind.imp fun d M1 W1 l1 m1 s1 v dv => ?_⟩
  refine ⟨W1.mu, M1, r, m1, sr.le l1, s1.bind.imp fun ds M2 W2 l2 m2 s2 vs dvs => ?_⟩
  exact s2.ok m2 (v :: vs) ⟨v, vs, rfl, DRel.le l2 d v dv, dvs⟩
abbrev LIM : Nat := 16777216
def mTup (ms : MA) : ME := fun F r M => (ms F r M).bind fun ds M1 => if ds.length ≤ LIM then .ok (.tup ds) M1 else .bad
def mLst (ms : MA) : ME := fun F r M => (ms F r M).bind fun ds M1 => if ds.length ≤ LIM then .ok (.lst ds) M1 else .bad
def newO (ds : List D) (M : Mem) : Res D := if D.bels M.length ds then .ok (.obj M.length) (M ++ [.lst ds]) else .bad
def mLstM (ms : MA) : ME := fun F r M => (ms F r M).bind fun ds M1 => if ds.length ≤ LIM then newO ds M1 else .bad
theorem lim_eq : LIM = sizeLine := by rw [sizeLine_eq]
theorem sat_ite {A : Type} {K : Kx} {W : Wd} {c : Prop} [Decidable c] {r : Res A} {P : A → Mem → Wd → Prop} (h : Sat K W (if c then r else .bad) P) : c ∧ Sat K W r P := by
  by_cases hc : c
  · rw [if_pos hc] at h; exact ⟨hc, h⟩
  · rw [if_neg hc] at h; exact h.elim
/-- a new tuple, a new list that is never changed, a new mutable list -/
theorem new_tup {K : Kx} {W : Wd} {M : Mem} {ds : List D} {vs : List V} {Q : VK} (m : MRel K W M) (dv : DRels K W ds vs) (h : Sat K W (.ok (.tup ds) M) (PV K Q)) {p : Addr} (hp : W.H p = none) : Q (.ref p) (upd W.H p (.tup vs)) := by
  obtain ⟨l, m'⟩ := m.laid hp (.tup vs)
  refine h _ l m' (.ref p) ?_
  simp only [DRel]
  exact ⟨p, vs, rfl, .inl ⟨.inl upd_same, m.fresh hp⟩, DRels.le l ds vs dv⟩
theorem new_lst {K : Kx} {W : Wd} {M : Mem} {ds : List D} {vs : List V} {Q : VK} (m : MRel K W M) (dv : DRels K W ds vs) (h : Sat K W (.ok (.lst ds) M) (PV K Q)) {p : Addr} (hp : W.H p = none) : Q (.ref p) (upd W.H p (.lst vs)) := by
  obtain ⟨l, m'⟩ := m.laid hp (.lst vs)
  refine h _ l m' (.ref p) ?_
  simp only [DRel]
  exact ⟨p, vs, rfl, .inl ⟨.inl upd_same, m.fresh hp⟩, DRels.le l ds vs dv⟩
theorem new_obj {K : Kx} {W : Wd} {M : Mem} {ds : List D} {vs : List V} {Q : VK} (m : MRel K W M) (dv : DRels K W ds vs) (h : Sat K W (newO ds M) (PV K Q)) {p : Addr} (hp : W.H p = none) : Q (.ref p) (upd W.H p (.lst vs)) := by
  obtain ⟨b, h⟩ := sat_ite h
  obtain ⟨l, m'⟩ := m.born hp dv b
  refine h _ l m' (.ref p) ?_
  simp only [DRel]
  refine ⟨p, rfl, ?_⟩
  show (W.mu.l ++ [p])[M.length]? = some p
  rw [← m.len, List.getElem?_append_right (Nat.le_refl _)]
  simp
theorem ok_tup {es : List Expr} {k pos} {ms : MA} (h1 : OkA T C es ms) : OkE T C (.Tuple es k pos) (mTup ms) := by
  intro n X wx h
  refine PE.of (pe_tup (h1 n X wx h)) fun s H Q q => ?_
  obtain ⟨mu, M, r, mr, sr, sat⟩ := q
  refine ⟨mu, M, r, mr, sr, sat.bind.imp fun ds M1 W1 l1 m1 s1 vs dvs => ?_⟩
  obtain ⟨hl, s1⟩ := sat_ite s1
  exact ⟨by rw [← dvs.length, ← lim_eq]; exact hl, fun p hp => new_tup m1 dvs s1 hp⟩
theorem ok_lst {es : List Expr} {pos} {ms : MA} (h1 : OkA T C es ms) : OkE T C (.List es pos) (mLst ms) := by
  intro n X wx h
  refine PE.of (pe_lst (h1 n X wx h)) fun s H Q q => ?_
  obtain ⟨mu, M, r, mr, sr, sat⟩ := q
  refine ⟨mu, M, r, mr, sr, sat.bind.imp fun ds M1 W1 l1 m1 s1 vs dvs => ?_⟩
  obtain ⟨hl, s1⟩ := sat_ite s1
  exact ⟨by rw [← dvs.length, ← lim_eq]; exact hl, fun p hp => new_lst m1 dvs s1 hp⟩
theorem ok_lstM {es : List Expr} {pos} {ms : MA} (h1 : OkA T C es ms) : OkE T C (.List es pos) (mLstM ms) := by
  intro n X wx h
  refine PE.of (pe_lst (h1 n X wx h)) fun s H Q q => ?_
  obtain ⟨mu, M, r, mr, sr, sat⟩ := q
  refine ⟨mu, M, r, mr, sr, sat.bind.imp fun ds M1 W1 l1 m1 s1 vs dvs => ?_⟩
  obtain ⟨hl, s1⟩ := sat_ite s1
  exact ⟨by rw [← dvs.length, ← lim_eq]; exact hl, fun p hp => new_obj m1 dvs s1 hp⟩

/-! ### two values -/
def rB (K : Kb) (f : D → D → Mem → Res D) : R2 := fun x y H Q => ∃ mu M dx dy, MRel K ⟨H, mu⟩ M ∧ DRel K ⟨H, mu⟩ dx x ∧ DRel K ⟨H, mu⟩ dy y ∧ Sat K.no ⟨H, mu⟩ (f dx dy M) (PV K Q)
def mB (f : D → D → Mem → Res D) (a b : ME) : ME := fun F r M => (a F r M).bind fun x M1 => (b F r M1).bind fun y M2 => (f x y M2).noX
theorem tOp_of {K : Kx} {F : FT} {f : D → D → Mem → Res D} {a b : ME} {s : L2.St} {H : Hp} {Q : VK} (q : rdE K F (mB f a b) s H Q) : tOp (rB K.b f) (rdE K F a) (rdE K F b) s H Q := by
  obtain ⟨mu, M, r, mr, sr, sat⟩ := q
  refine ⟨mu, M, r, mr, sr, sat.bind.imp fun x M1 W1 l1 m1 s1 v dv => ?_⟩
  refine ⟨W1.mu, M1, r, m1, sr.le l1, s1.bind.imp fun y M2 W2 l2 m2 s2 u du => ?_⟩
  exact ⟨W2.mu, M2, x, y, m2, DRel.le l2 x v dv, du, s2.noX⟩
theorem ok_bin {a b : Expr} {op : Operator} {pos : Pos} {f : D → D → Mem → Res D} {ma mb : ME} (ho : ∀ n X wx, CxOk T n C X wx → OpR X (binaryOp op) (rB (kb X) f)) (ha : OkE T C a ma) (hb : OkE T C b mb) : OkE T C (.BinOp a op b pos) (mB f ma mb) := by
  intro n X wx h
  exact PE.of (pe_op (ho n X wx h) (ha n X wx h) (hb n X wx h)) fun s H Q q => tOp_of q
theorem ok_cmp {a b : Expr} {op : CmpOp} {pos : Pos} {f : D → D → Mem → Res D} {ma mb : ME} (ho : ∀ n X wx, CxOk T n C X wx → OpR X (compareOp op) (rB (kb X) f)) (ha : OkE T C a ma) (hb : OkE T C b mb) (hm : behindInMarks op b = false) : OkE T C (.Compare a [op] [b] pos) (mB f ma mb) := by
  intro n X wx h
  exact PE.of (pe_cmpR (ho n X wx h) (ha n X wx h) (hb n X wx h) hm) fun s H Q q => tOp_of q
/-- a value that is a bool, as a test -/
def mTB (m : ME) : MT := fun F r M => (m F r M).bind fun d M1 => match d with
  | .bl b => .ok b M1
  | _ => .bad
theorem tB_of {K : Kx} {F : FT} {m : ME} {s : L2.St} {H : Hp} {Q : Bool → Hp → Prop} (q : rdT K F (mTB m) s H Q) : tTest (rdE K F m) s H Q := by
  obtain ⟨mu, M, r, mr, sr, sat⟩ := q
  refine ⟨mu, M, r, mr, sr, sat.bind.imp fun d M1 W1 l1 m1 s1 v dv => ?_⟩
  cases d with
  | bl b =>
    cases (show v = .bl b from dv)
    exact ⟨b, rfl, s1.ok m1⟩
  | _ => exact s1.elim
theorem ok_tcmp {a b : Expr} {op : CmpOp} {pos : Pos} {f : D → D → Mem → Res D} {ma mb : ME} (ho : ∀ n X wx, CxOk T n C X wx → OpR X (compareOp op) (rB (kb X) f)) (ha : OkE T C a ma) (hb : OkE T C b mb) (hm : behindInMarks op b = false) : OkT T C (.Compare a [op] [b] pos) (mTB (mB f ma mb)) := by
  intro n X wx h
  refine PT.of (pt_cmpR (ho n X wx h) (ha n X wx h) (hb n X wx h) hm) fun s H Q q => ?_
  obtain ⟨mu, M, r, mr, sr, sat⟩ := tB_of q
  exact tOp_of ⟨mu, M, r, mr, sr, sat⟩
end RI

set_option maxHeartbeats 4000000
namespace RI
open PySem PySem.Spec PyProof.Rows L2
variable {T : Tb} {C : CC}

/-! ### lists and tuples that are read -/
def lstD (M : Mem) : D → Option (List D)
  | .lst l => some l
  | .obj i => match M[i]? with
    | some (.lst l) => some l
    | _ => none
  | _ => none
def seqD (M : Mem) : D → Option (List D)
  | .tup l => some l
  | .lst l => some l
  | .obj i => match M[i]? with
    | some (.lst l) => some l
    | _ => none
  | _ => none
theorem lstD_at {K : Kb} {W : Wd} {M : Mem} {d : D} {l : List D} {v : V} (m : MRel K W M) (h : lstD M d = some l) (r : DRel K W d v) : ∃ a xs, v = .ref a ∧ SqL K.K W.H a xs ∧ DRels K W l xs := by
  cases d with
  | lst l' =>
    simp only [lstD, Option.some.injEq] at h
    subst h
    simp only [DRel] at r
    obtain ⟨a, xs, e, q, r⟩ := r
    exact ⟨a, xs, e, q.sq, r⟩
  | obj i =>
    simp only [DRel] at r
    obtain ⟨a, e, q⟩ := r
    simp only [lstD] at h
    cases e2 : M[i]? with
    | none => rw [e2] at h; cases h
    | some o =>
      rw [e2] at h
      cases o with
      | lst l' =>
        simp only [Option.some.injEq] at h
        subst h
        obtain ⟨xs, e3, r3, _⟩ := m.obj i a _ q e2
        exact ⟨a, xs, e, SqL.of e3, r3⟩
      | dct _ l' => cases h
      | dks _ l' => cases h
      | ins _ l' => cases h
  | _ => simp [lstD] at h
theorem seqD_at {K : Kb} {W : Wd} {M : Mem} {d : D} {l : List D} {v : V} (m : MRel K W M) (h : seqD M d = some l) (r : DRel K W d v) : ∃ a xs, v = .ref a ∧ (SqL K.K W.H a xs ∨ SqT K.K W.H a xs) ∧ DRels K W l xs := by
  by_cases ht : ∃ l', d = .tup l'
  · obtain ⟨l', rfl⟩ := ht
    simp only [seqD, Option.some.injEq] at h
    subst h
    simp only [DRel] at r
    obtain ⟨a, xs, e, q, r⟩ := r
    exact ⟨a, xs, e, .inr q.sq, r⟩
  · have h' : lstD M d = some l := by
      cases d with
      | tup l' => exact absurd ⟨l', rfl⟩ ht
      | _ => exact h
    obtain ⟨a, xs, e, q, r⟩ := lstD_at m h' r
    exact ⟨a, xs, e, .inl q, r⟩
theorem Rd.lstM {X : Cx} {pins : List (Addr × Obj)} {σ : L2.St} {H : Hp} {s : Shared} {l : Addr} {xs : List V} (I : Inv X pins σ H s) (hH : Rd H l (.lst xs)) : xs.length ≤ sizeLine ∧ ∃ (its : List Value) (n : Nat), Vals xs its ∧ xs.length = its.length ∧ s.heap.get? l = some { cls := .type "list", data := .seq its.toArray n } := by
  obtain ⟨z, its, n, r, e⟩ := hH.ok I.hok
  exact ⟨z, its, n, r, r.length, e⟩

/-! ### arithmetic -/
def cmul (i j : Int) : Bool := Nat.ble i.natAbs 18446744073709551615 || Nat.ble j.natAbs 18446744073709551615
def addD : D → D → Mem → Res D
  | .int i, .int j, M => .ok (.int (i + j)) M
  | .str a, .str b, M => if a.length + b.length ≤ LIM then .ok (.str (a ++ b)) M else .bad
  | .tup a, .tup b, M => if a.length + b.length ≤ LIM then .ok (.tup (a ++ b)) M else .bad
  | x, y, M => match lstD M x, lstD M y with
    | some a, some b => if a.length + b.length ≤ LIM then .ok (.lst (a ++ b)) M else .bad
    | _, _ => .bad
theorem op_catR {X : Cx} : OpR X (binaryOp .Add) (fun x y H Q => ∃ l b xs zs, x = .ref l ∧ y = .ref b ∧ SqL X.K H l xs ∧ SqL X.K H b zs ∧ xs.length + zs.length ≤ sizeLine ∧ ∀ p, H p = none → Q (.ref p) (upd H p (.lst (xs ++ zs)))) := by
  intro pins s σ H x y v u Q I rx ry h
  obtain ⟨l, b, xs, zs, rfl, rfl, hH, hB, hz, q⟩ := h
  cases rx
  cases ry
  obtain ⟨its, r, pl, z⟩ := I.list hH
  obtain ⟨its2, r2, pl2, z2⟩ := I.list hB
  have hl := r.length
  have hl2 := r2.length
  obtain ⟨⟨cls, dd, data, sl⟩, ho, hc, n, hd⟩ := pl.isList
  obtain ⟨⟨cls2, dd2, data2, sl2⟩, ho2, hc2, n2, hd2⟩ := pl2.isList
  simp only at hc hd hc2 hd2
  subst hc hd hc2 hd2
  refine concat_meets ⟨_, ho, rfl⟩ ⟨_, ho2, rfl⟩ noFill_list_add seq_list_add PySem.F.slot_list_add PySem.F.entry_list_add (PySem.F.args_list_add_2 _ _) (list_addW l b its.toArray its2.toArray n n2 dd dd2 sl sl2 (by simp only [List.size_toArray]; omega)) ⟨ho, ho2, ?_⟩
  have ea : its.toArray ++ its2.toArray = (its ++ its2).toArray := by simp
  rw [ea]
  exact ⟨.ref _, _, I.lnew (t' := s.toks) (r.append r2) (by rw [List.length_append]; omega), rfl, q _ I.fresh⟩
theorem str_len {a : List Nat} : (⟨a.toArray⟩ : Str).length = a.length := by simp [Str.length]
theorem str_app {a b : List Nat} : (⟨a.toArray⟩ ++ ⟨b.toArray⟩ : Str) = ⟨(a ++ b).toArray⟩ := by
  show Str.mk _ = _
  simp
theorem or_add {X : Cx} : OpR X (binaryOp .Add) (rB (kb X) addD) := by
  intro pins s σ H x y v u Q I rx ry h
  obtain ⟨mu, M, dx, dy, mr, hx, hy, sat⟩ := h
  unfold addD at sat
  split at sat
  · cases (show x = _ from hx); cases (show y = _ from hy)
    exact op_add pins s σ H _ _ v u Q I rx ry ⟨_, _, rfl, rfl, sat.ok mr _ rfl⟩
  · rename_i a b
    obtain ⟨hl, sat⟩ := sat_ite sat
    cases (show x = _ from hx); cases (show y = _ from hy)
    refine op_add_str pins s σ H _ _ v u Q I rx ry ⟨_, _, rfl, rfl, by rw [str_len, str_len, ← lim_eq]; exact hl, sat.ok mr _ ?_⟩
    rw [str_app]; rfl
  · rename_i a b
    obtain ⟨hl, sat⟩ := sat_ite sat
    simp only [DRel] at hx hy
    obtain ⟨p, xs, rfl, tp, rx'⟩ := hx
    obtain ⟨q, ys, rfl, tq, ry'⟩ := hy
    have l1 := rx'.length
    have l2 := ry'.length
    refine op_catA pins s σ H _ _ v u Q I rx ry ⟨p, q, xs, ys, rfl, rfl, tp.sq, tq.sq, by rw [← l1, ← l2, ← lim_eq]; exact hl, fun e => ?_, fun _ e => ?_, fun _ _ c hc => ?_⟩
    · subst e
      cases a with
      | nil => exact sat.ok mr _ (by simp only [DRel]; exact ⟨q, ys, rfl, tq, ry'⟩)
      | cons _ _ => simp at l1
    · subst e
      cases b with
      | nil => exact sat.ok mr _ (by simp only [DRel, List.append_nil]; exact ⟨p, xs, rfl, tp, rx'⟩)
      | cons _ _ => simp at l2
    · exact new_tup mr (rx'.append ry') sat hc
  · split at sat
    · rename_i a b ea eb
      obtain ⟨hl, sat⟩ := sat_ite sat
      obtain ⟨p, xs, rfl, tp, rx'⟩ := lstD_at mr ea hx
      obtain ⟨q, ys, rfl, tq, ry'⟩ := lstD_at mr eb hy
      exact op_catR pins s σ H _ _ v u Q I rx ry ⟨p, q, xs, ys, rfl, rfl, tp, tq, by rw [← rx'.length, ← ry'.length, ← lim_eq]; exact hl, fun c hc => new_lst mr (rx'.append ry') sat hc⟩
    · exact sat.elim
def intD (c : Int → Int → Bool) (g : Int → Int → D) : D → D → Mem → Res D
  | .int i, .int j, M => if c i j then .ok (g i j) M else .bad
  | _, _, _ => .bad
theorem or_int {X : Cx} {f : Value → Value → Sem Value} {c : Int → Int → Bool} {g : Int → Int → D} {P : Int → Int → Prop} {gv : Int → Int → V} (ho : OpR X f (rI P gv)) (hc : ∀ i j, c i j = true → P i j) (hg : ∀ K i j, KRel K (g i j) (gv i j)) : OpR X f (rB (kb X) (intD c g)) := by
  intro pins s σ H x y v u Q I rx ry h
  obtain ⟨mu, M, dx, dy, mr, hx, hy, sat⟩ := h
  unfold intD at sat
  split at sat
  · obtain ⟨hl, sat⟩ := sat_ite sat
    cases (show x = _ from hx); cases (show y = _ from hy)
    exact ho pins s σ H _ _ v u Q I rx ry ⟨_, _, rfl, rfl, hc _ _ hl, sat.ok mr _ (hg _ _ _ _)⟩
  · exact sat.elim
theorem or_int0 {X : Cx} {f : Value → Value → Sem Value} {g : Int → Int → D} {gv : Int → Int → V} (ho : OpR X f (rI0 gv)) (hg : ∀ K i j, KRel K (g i j) (gv i j)) : OpR X f (rB (kb X) (intD (fun _ _ => true) g)) := by
  intro pins s σ H x y v u Q I rx ry h
  obtain ⟨mu, M, dx, dy, mr, hx, hy, sat⟩ := h
  unfold intD at sat
  split at sat
  · obtain ⟨hl, sat⟩ := sat_ite sat
    cases (show x = _ from hx); cases (show y = _ from hy)
    exact ho pins s σ H _ _ v u Q I rx ry ⟨_, _, rfl, rfl, sat.ok mr _ (hg _ _ _ _)⟩
  · exact sat.elim
def subD : D → D → Mem → Res D := intD (fun _ _ => true) fun i j => .int (i - j)
def mulD : D → D → Mem → Res D := intD cmul fun i j => .int (i * j)
def fdivD : D → D → Mem → Res D := intD (fun _ j => decide (0 < j) && decide (j < 1073741824)) fun i j => .int (i / j)
def modD : D → D → Mem → Res D := intD (fun _ j => decide (0 < j)) fun i j => .int (i % j)
def powD : D → D → Mem → Res D := intD (fun i j => decide (0 ≤ j) && decide (j ≤ 1000000) && decide (i.natAbs < 2 ^ 64)) fun i j => .int (i ^ j.toNat)
theorem or_sub {X : Cx} : OpR X (binaryOp .Sub) (rB (kb X) subD) := or_int0 op_sub fun _ _ _ _ => rfl
theorem or_mul {X : Cx} : OpR X (binaryOp .Mult) (rB (kb X) mulD) := or_int op_mul (fun i j h => by
  have e : (2 : Int) ^ 64 = 18446744073709551616 := by decide +kernel
  show (-(2 ^ 64) < i ∧ i < 2 ^ 64) ∨ (-(2 ^ 64) < j ∧ j < 2 ^ 64)
  simp only [cmul, Bool.or_eq_true] at h
  rw [e]
  rcases h with h | h
  · have h := Nat.le_of_ble_eq_true h
    exact .inl (by omega)
  · have h := Nat.le_of_ble_eq_true h
    exact .inr (by omega)) fun _ _ _ _ => rfl
theorem or_fdiv {X : Cx} : OpR X (binaryOp .FloorDiv) (rB (kb X) fdivD) := or_int op_fdiv (fun i j h => by
  simp only [Bool.and_eq_true, decide_eq_true_eq] at h; exact h) fun _ _ _ _ => rfl
theorem or_mod {X : Cx} : OpR X (binaryOp .Mod) (rB (kb X) modD) := or_int op_mod (fun i j h => by
  simp only [decide_eq_true_eq] at h; exact h) fun _ _ _ _ => rfl
theorem or_pow {X : Cx} : OpR X (binaryOp .Pow) (rB (kb X) powD) := or_int op_pow (fun i j h => by
  simp only [Bool.and_eq_true, decide_eq_true_eq] at h; exact ⟨h.1.1, h.1.2, h.2⟩) fun _ _ _ _ => rfl
/-! ### equality of data -/
mutual
def D.toP : D → PyData
  | .non => .none
  | .bl b => .bool b
  | .int i => .int i
  | .str s => .str ⟨s.toArray⟩
  | .tup l => .tuple (D.toPs l)
  | .lst l => .list (D.toPs l)
  | .obj _ => .none
  | .exn _ _ _ => .none
  | .ins _ _ _ => .none
def D.toPs : List D → List PyData
  | [] => []
  | d :: ds => D.toP d :: D.toPs ds
end
mutual
def D.noObj : D → Bool
  | .obj _ => false
  | .exn _ _ _ => false
  | .ins _ _ _ => false
  | .tup l => D.noObjs l
  | .lst l => D.noObjs l
  | _ => true
def D.noObjs : List D → Bool
  | [] => true
  | d :: ds => D.noObj d && D.noObjs ds
end
mutual
theorem D.dp {K : Kb} {W : Wd} : ∀ (d : D) (v : V), D.noObj d = true → DRel K W d v → Dp K.K W.H v (D.toP d)
  | .non, v, _, h => by cases (show v = _ from h); exact .non
  | .bl b, v, _, h => by cases (show v = _ from h); exact .bl b
  | .int i, v, _, h => by cases (show v = _ from h); exact .int i
  | .str s, v, _, h => by cases (show v = _ from h); exact .str _
  | .tup l, v, b, h => by
    simp only [DRel] at h
    simp only [D.noObj] at b
    obtain ⟨a, xs, rfl, t, r⟩ := h
    exact .tup t.sq (D.dps l xs b r)
  | .lst l, v, b, h => by
    simp only [DRel] at h
    simp only [D.noObj] at b
    obtain ⟨a, xs, rfl, t, r⟩ := h
    exact .lst t.sq (D.dps l xs b r)
  | .obj i, v, b, h => by simp [D.noObj] at b
  | .exn _ _ _, v, b, h => by simp [D.noObj] at b
  | .ins _ _ _, v, b, h => by simp [D.noObj] at b
theorem D.dps {K : Kb} {W : Wd} : ∀ (ds : List D) (vs : List V), D.noObjs ds = true → DRels K W ds vs → DpAll K.K W.H vs (D.toPs ds)
  | [], vs, _, h => by cases (show vs = _ from h); exact .nil
  | d :: ds, vs, b, h => by
    simp only [DRels] at h
    simp only [D.noObjs, Bool.and_eq_true] at b
    obtain ⟨v, r, rfl, h1, h2⟩ := h
    exact .cons (D.dp d v b.1 h1) (D.dps ds r b.2 h2)
end
/-- an object's own list, its items not objects -/
def derefD (M : Mem) (d : D) : D := match d with
  | .obj i => match M[i]? with
    | some (.lst l) => .lst l
    | _ => .obj i
  | d => d
theorem deref_dp {K : Kb} {W : Wd} {M : Mem} {d : D} {v : V} (m : MRel K W M) (h : DRel K W d v) (b : D.noObj (derefD M d) = true) : Dp K.K W.H v (D.toP (derefD M d)) := by
  cases d with
  | obj i =>
    simp only [DRel] at h
    obtain ⟨a, rfl, q⟩ := h
    simp only [derefD] at b ⊢
    cases e : M[i]? with
    | none => rw [e] at b; simp [D.noObj] at b
    | some o =>
      cases o with
      | lst l =>
        rw [e] at b
        simp only [D.noObj] at b
        obtain ⟨xs, e3, r3, _⟩ := m.obj i a _ q e
        exact .lst (SqL.of e3) (D.dps l xs b r3)
      | dct _ l => rw [e] at b; simp [D.noObj] at b
      | dks _ l => rw [e] at b; simp [D.noObj] at b
      | ins _ l => rw [e] at b; simp [D.noObj] at b
  | _ => exact D.dp _ _ b h
def eqD (neg : Bool) (x y : D) (M : Mem) : Res D :=
  if (D.noObj (derefD M x) && D.noObj (derefD M y) && SeqAt.shaped (D.toP (derefD M x)) && SeqAt.shaped (D.toP (derefD M y))) = true then
    .ok (.bl (if neg then !PyData.eqv (D.toP (derefD M x)) (D.toP (derefD M y)) else PyData.eqv (D.toP (derefD M x)) (D.toP (derefD M y)))) M else .bad
theorem or_eq {X : Cx} (hu : X.A.units + 64 < cLine) : OpR X (compareOp .Eq) (rB (kb X) (eqD false)) := by
  intro pins s σ H x y v u Q I rx ry h
  obtain ⟨mu, M, dx, dy, mr, hx, hy, sat⟩ := h
  obtain ⟨hc, sat⟩ := sat_ite sat
  simp only [Bool.and_eq_true] at hc
  obtain ⟨⟨⟨h1, h2⟩, h3⟩, h4⟩ := hc
  exact op_eqD hu pins s σ H x y v u Q I rx ry ⟨_, _, deref_dp mr hx h1, deref_dp mr hy h2, h3, h4, sat.ok mr _ rfl⟩
theorem or_ne {X : Cx} (hu : X.A.units + 64 < cLine) : OpR X (compareOp .NotEq) (rB (kb X) (eqD true)) := by
  intro pins s σ H x y v u Q I rx ry h
  obtain ⟨mu, M, dx, dy, mr, hx, hy, sat⟩ := h
  obtain ⟨hc, sat⟩ := sat_ite sat
  simp only [Bool.and_eq_true] at hc
  obtain ⟨⟨⟨h1, h2⟩, h3⟩, h4⟩ := hc
  exact op_neD hu pins s σ H x y v u Q I rx ry ⟨_, _, deref_dp mr hx h1, deref_dp mr hy h2, h3, h4, sat.ok mr _ rfl⟩
/-- not None -/
def D.noN : D → Bool
  | .non => false
  | _ => true
/-! ### order of data -/
def ordD (g : Int → Int → Bool) (f : PyData → PyData → Bool) (x y : D) (M : Mem) : Res D := match x, y with
  | .int i, .int j => .ok (.bl (g i j)) M
  | x, y => if (D.noObj (derefD M x) && D.noObj (derefD M y) && PySem.W.alike (D.toP (derefD M x)) (D.toP (derefD M y)) && D.noN (derefD M x) && Nat.ble (D.toP (derefD M x)).depth 60) = true then .ok (.bl (f (D.toP (derefD M x)) (D.toP (derefD M y)))) M else .bad
theorem noN_ne {d : D} (h : D.noN d = true) (h' : D.noObj d = true) : D.toP d ≠ .none := by
  cases d <;> simp_all [D.noN, D.toP, D.noObj]
theorem or_ord {X : Cx} {op : CmpOp} {g : Int → Int → Bool} {f : PyData → PyData → Bool} (hi : OpR X (compareOp op) (rI0 fun i j => .bl (g i j)))
    (hd : ∀ {A : Around} {E : Value → Shared → Prop} {s : Shared} {a b : Value} {da db : PyData} {as bs : List Addr} {Q : Value → Shared → Prop}, Reads s.heap a da as → Reads s.heap b db bs → PySem.W.alike da db = true → da ≠ .none → A.units + min da.depth db.depth < cLine → Q (.bool (f da db)) s → wpAny (model X.prog X.w) A (compareOp op a b) Q E s)
    (hu : X.A.units + 64 < cLine) : OpR X (compareOp op) (rB (kb X) (ordD g f)) := by
  intro pins s σ H x y v u Q I rx ry h
  obtain ⟨mu, M, dx, dy, mr, hx, hy, sat⟩ := h
  unfold ordD at sat
  split at sat
  · cases (show x = _ from hx); cases (show y = _ from hy)
    exact hi pins s σ H _ _ v u Q I rx ry ⟨_, _, rfl, rfl, sat.ok mr _ rfl⟩
  · obtain ⟨hc, sat⟩ := sat_ite sat
    simp only [Bool.and_eq_true] at hc
    obtain ⟨⟨⟨⟨h1, h2⟩, h3⟩, h4⟩, h5⟩ := hc
    obtain ⟨as, r1⟩ := Dp.reads I _ _ _ (deref_dp mr hx h1) rx
    obtain ⟨bs, r2⟩ := Dp.reads I _ _ _ (deref_dp mr hy h2) ry
    have h5 := Nat.le_of_ble_eq_true h5
    exact hd r1 r2 h3 (noN_ne h4 h1) (by omega) ⟨.bl _, H, I, rfl, sat.ok mr _ rfl⟩
def ltD : D → D → Mem → Res D := ordD (fun i j => decide (i < j)) PySem.W.dataLt
def leD : D → D → Mem → Res D := ordD (fun i j => decide (i ≤ j)) (fun a b => !PySem.W.dataLt b a)
def gtD : D → D → Mem → Res D := ordD (fun i j => decide (j < i)) (fun a b => PySem.W.dataLt b a)
def geD : D → D → Mem → Res D := ordD (fun i j => decide (j ≤ i)) (fun a b => !PySem.W.dataLt a b)
theorem or_lt {X : Cx} (hu : X.A.units + 64 < cLine) : OpR X (compareOp .Lt) (rB (kb X) ltD) := or_ord op_lt PySem.W.lt_data hu
theorem or_le {X : Cx} (hu : X.A.units + 64 < cLine) : OpR X (compareOp .LtE) (rB (kb X) leD) := or_ord op_le PySem.W.le_data hu
theorem or_gt {X : Cx} (hu : X.A.units + 64 < cLine) : OpR X (compareOp .Gt) (rB (kb X) gtD) := or_ord op_gt PySem.W.gt_data hu
theorem or_ge {X : Cx} (hu : X.A.units + 64 < cLine) : OpR X (compareOp .GtE) (rB (kb X) geD) := or_ord op_ge PySem.W.ge_data hu
/-- is None, is not None -/
def D.isNon : D → Bool
  | .non => true
  | _ => false
def isD (neg : Bool) (x y : D) (M : Mem) : Res D := match y with
  | .non => .ok (.bl (if neg then !x.isNon else x.isNon)) M
  | _ => .bad
theorem drel_non {K : Kb} {W : Wd} {d : D} {v : V} (h : DRel K W d v) : decide (v = .non) = d.isNon := by
  cases d with
  | non => cases (show v = _ from h); rfl
  | bl b => cases (show v = _ from h); rfl
  | int i => cases (show v = _ from h); rfl
  | str i => cases (show v = _ from h); rfl
  | tup l => simp only [DRel] at h; obtain ⟨a, xs, rfl, _⟩ := h; rfl
  | lst l => simp only [DRel] at h; obtain ⟨a, xs, rfl, _⟩ := h; rfl
  | obj i => simp only [DRel] at h; obtain ⟨a, rfl, _⟩ := h; rfl
  | exn c ns ds => simp only [DRel] at h; obtain ⟨a, cls, od, _, rfl, _⟩ := h; rfl
  | ins c ns ds => simp only [DRel] at h; obtain ⟨a, C, dx, xs, rfl, _⟩ := h; rfl
theorem or_is {X : Cx} : OpR X (compareOp .Is) (rB (kb X) (isD false)) := by
  intro pins s σ H x y v u Q I rx ry h
  obtain ⟨mu, M, dx, dy, mr, hx, hy, sat⟩ := h
  unfold isD at sat
  split at sat
  · exact op_isN pins s σ H x y v u Q I rx ry ⟨hy, by rw [drel_non hx]; exact sat.ok mr _ rfl⟩
  · exact sat.elim
theorem or_isnot {X : Cx} : OpR X (compareOp .IsNot) (rB (kb X) (isD true)) := by
  intro pins s σ H x y v u Q I rx ry h
  obtain ⟨mu, M, dx, dy, mr, hx, hy, sat⟩ := h
  unfold isD at sat
  split at sat
  · exact op_notN pins s σ H x y v u Q I rx ry ⟨hy, by rw [drel_non hx]; exact sat.ok mr _ rfl⟩
  · exact sat.elim
end RI

set_option maxHeartbeats 4000000
namespace RI
open PySem PySem.Spec PyProof.Rows L2

/-! ### dicts whose keys are tuples -/
mutual
theorem key_is {X : Cx} {pins : List (Addr × Obj)} {σ : L2.St} {H : Hp} {s : Shared} {mu : Mu} (I : Inv X pins σ H s) : ∀ (d : D) (v : V) (u : Value), D.keyly d = true → DRel (kb X) ⟨H, mu⟩ d v → RelV v u → NestedIs s.heap (D.toK d) u
  | .non, v, u, _, h, r => by cases (show v = _ from h); cases (show u = _ from r); exact .none
  | .bl b, v, u, _, h, r => by cases (show v = _ from h); cases (show u = _ from r); exact .bool rfl
  | .int i, v, u, _, h, r => by
    cases (show v = _ from h)
    obtain ⟨t, rfl⟩ := (show ∃ t, u = Value.int i t from r)
    exact .int i t
  | .str x, v, u, _, h, r => by
    cases (show v = _ from h)
    obtain ⟨t, rfl⟩ := (show ∃ t, u = Value.str _ t from r)
    exact .text _ t
  | .tup l, v, u, k, h, r => by
    simp only [DRel] at h
    simp only [D.keyly] at k
    obtain ⟨a, xs, rfl, t, dr⟩ := h
    cases (show u = _ from r)
    obtain ⟨its, rv, p, hz⟩ := I.tuple t.sq
    obtain ⟨o, ho, hc, n, hd⟩ := p
    exact .tup ho hc hd (by simpa using keys_is I l xs its k dr rv)
  | .lst _, _, _, k, _, _ => by simp [D.keyly] at k
  | .obj _, _, _, k, _, _ => by simp [D.keyly] at k
  | .exn _ _ _, _, _, k, _, _ => by simp [D.keyly] at k
theorem keys_is {X : Cx} {pins : List (Addr × Obj)} {σ : L2.St} {H : Hp} {s : Shared} {mu : Mu} (I : Inv X pins σ H s) : ∀ (ds : List D) (vs : List V) (us : List Value), D.keylys ds = true → DRels (kb X) ⟨H, mu⟩ ds vs → Vals vs us → NestedAll s.heap (D.toKs ds) us
  | [], vs, us, _, h, r => by
    cases (show vs = _ from h)
    cases r
    exact .nil
  | d :: ds, vs, us, k, h, r => by
    simp only [DRels] at h
    simp only [D.keylys, Bool.and_eq_true] at k
    obtain ⟨v, vr, rfl, h1, h2⟩ := h
    cases r with
    | cons r1 r2 => exact .cons (key_is I d v _ k.1 h1 r1) (keys_is I ds vr _ k.2 h2 r2)
end
theorem isKey_is {X : Cx} {pins : List (Addr × Obj)} {σ : L2.St} {H : Hp} {s : Shared} {mu : Mu} (I : Inv X pins σ H s) {d : D} {v : V} {u : Value} (k : D.isKey d = true) (h : DRel (kb X) ⟨H, mu⟩ d v) (r : RelV v u) : ∃ a, v = .ref a ∧ u = .ref a ∧ (nestedKind X.prog X.w).is s.heap (D.toK d) a := by
  cases d with
  | tup l =>
    simp only [D.isKey, Bool.and_eq_true] at k
    have h' := h
    simp only [DRel] at h'
    obtain ⟨a, xs, rfl, t, dr⟩ := h'
    cases (show u = _ from r)
    refine ⟨a, rfl, rfl, key_is I (.tup l) _ _ (by simp only [D.keyly]; exact k.1) h rfl, ?_⟩
    have := Nat.le_of_ble_eq_true k.2
    simp only [D.toK, NestedKey.depth]
    omega
  | _ => simp [D.isKey] at k
def dgetD (k : NestedKey) : List (D × D) → Option D
  | [] => none
  | p :: r => if NestedKey.beq (D.toK p.1) k = true then some p.2 else dgetD k r
def dsetD (kd v : D) (l : List (D × D)) : List (D × D) := if (dgetD (D.toK kd) l).isSome = true then l.map fun p => if NestedKey.beq (D.toK p.1) (D.toK kd) = true then (p.1, v) else p else l ++ [(kd, v)]
theorem beq_iff (a b : NestedKey) : NestedKey.beq a b = true ↔ a = b := by
  rw [← NestedKey.decide_eq]; exact decide_eq_true_iff
theorem dget_rel {K : Kb} {W : Wd} {i : Nat} (k : NestedKey) : ∀ {l : List (D × D)} {xs : List (NestedKey × Addr × Value)}, Paired (KVR K W i) l xs → (∀ d, dgetD k l = some d → ∃ p, atKey xs k = some p ∧ ∃ v, DRel K W d v ∧ RelV v p.2) ∧ (dgetD k l = none → atKey xs k = none)
  | _, _, .nil => ⟨fun d h => by simp [dgetD] at h, fun _ => rfl⟩
  | _, _, .cons (a := p) (b := x) r t => by
    obtain ⟨h1, h2, h3, ⟨v, h4, h5⟩, h6⟩ := r
    obtain ⟨i1, i2⟩ := dget_rel k t
    by_cases e : D.toK p.1 = k
    · have eb : NestedKey.beq (D.toK p.1) k = true := (beq_iff _ _).mpr e
      have ex : x.1 = k := h2.trans e
      refine ⟨fun d h => ?_, fun h => ?_⟩
      · simp only [dgetD, eb, if_true, Option.some.injEq] at h
        subst h
        exact ⟨x.2, by simp [atKey, ex], v, h4, h5⟩
      · simp only [dgetD, eb, if_true] at h; cases h
    · have eb : ¬ NestedKey.beq (D.toK p.1) k = true := fun z => e ((beq_iff _ _).mp z)
      have ex : ¬ x.1 = k := fun z => e (h2.symm.trans z)
      refine ⟨fun d h => ?_, fun h => ?_⟩
      · simp only [dgetD, eb, if_false] at h
        obtain ⟨q, hq, hv⟩ := i1 d h
        exact ⟨q, by simpa [atKey, ex] using hq, hv⟩
      · simp only [dgetD, eb, if_false] at h
        simpa [atKey, ex] using i2 h
theorem dget_some {K : Kb} {W : Wd} {i : Nat} (k : NestedKey) {l : List (D × D)} {xs : List (NestedKey × Addr × Value)} (h : Paired (KVR K W i) l xs) : (atKey xs k).isSome = (dgetD k l).isSome := by
  obtain ⟨i1, i2⟩ := dget_rel k h
  cases e : dgetD k l with
  | none => rw [i2 e]; rfl
  | some d => obtain ⟨p, hp, _⟩ := i1 d e; rw [hp]; rfl
theorem paired_app {α β : Type} {F : α → β → Prop} : ∀ {l1 l2 : List α} {m1 m2 : List β}, Paired F l1 m1 → Paired F l2 m2 → Paired F (l1 ++ l2) (m1 ++ m2)
  | _, _, _, _, .nil, h => h
  | _, _, _, _, .cons r t, h => .cons r (paired_app t h)
theorem dset_rel {K : Kb} {W : Wd} {i : Nat} {kd v : D} {ka : Addr} {vv : V} {u : Value} (hk : D.isKey kd = true) (hd : DRel K W kd (.ref ka)) (hv : DRel K W v vv) (hu : RelV vv u) (hb : D.bel i v = true) {l : List (D × D)} {xs : List (NestedKey × Addr × Value)} (h : Paired (KVR K W i) l xs) :
    Paired (KVR K W i) (dsetD kd v l) (storedH xs (D.toK kd) ka u) := by
  unfold dsetD storedH
  rw [dget_some (D.toK kd) h]
  cases (dgetD (D.toK kd) l).isSome with
  | false =>
    simp only [Bool.false_eq_true, if_false]
    exact paired_app h (.cons ⟨hk, rfl, hd, ⟨vv, hv, hu⟩, hb⟩ .nil)
  | true =>
    simp only [if_true]
    have key : ∀ {l : List (D × D)} {xs : List (NestedKey × Addr × Value)}, Paired (KVR K W i) l xs → Paired (KVR K W i) (l.map fun p => if NestedKey.beq (D.toK p.1) (D.toK kd) = true then (p.1, v) else p) (xs.map (putAt (D.toK kd) u)) := by
      intro l xs h
      induction h with
      | nil => exact .nil
      | @cons p x l' xs' r t ih =>
        simp only [List.map_cons]
        refine .cons ?_ ih
        obtain ⟨h1, h2, h3, h4, h6⟩ := r
        by_cases e : D.toK p.1 = D.toK kd
        · rw [if_pos ((beq_iff _ _).mpr e)]
          have : putAt (D.toK kd) u x = (x.1, x.2.1, u) := by simp [putAt, h2, e]
          rw [this]
          exact ⟨h1, h2, h3, ⟨vv, hv, hu⟩, hb⟩
        · rw [if_neg fun z => e ((beq_iff _ _).mp z)]
          have : putAt (D.toK kd) u x = x := by simp [putAt, h2, e]
          rw [this]
          exact ⟨h1, h2, h3, h4, h6⟩
    exact key h
section
variable {X : Cx} {pins : List (Addr × Obj)} {σ : L2.St} {H : Hp} {s : Shared} {mu : Mu} {M : Mem} {j : Nat} {a : Addr} {l : List (D × D)}
theorem dct_at (I : Inv X pins σ H s) (mr : MRel (kb X) ⟨H, mu⟩ M) (ha : mu.l[j]? = some a) {lk : Bool} (e : M[j]? = some (.dct lk l)) : ∃ xs, LkH ⟨H, mu⟩ a lk (DctO X.prog X.w a xs) ∧ s.heap.DictOfH (nestedKind X.prog X.w) a xs ∧ xs.length ≤ sizeLine ∧ (a == sysModules) = false ∧ Paired (KVR (kb X) ⟨H, mu⟩ j) l xs := by
  obtain ⟨xs, h1, h2, h3, h4, h5⟩ := mr.obj j a _ ha e
  refine ⟨xs, h1, ?_, h3, h4, h5⟩
  obtain ⟨o, es, ep, g1, g2, g3, g4⟩ := (Rd.ok h1.rd I.hok).1
  refine ⟨o, es, ep, g1, g2, g3, g4, ?_, h2⟩
  have key : ∀ {l : List (D × D)} {xs : List (NestedKey × Addr × Value)}, Paired (KVR (kb X) ⟨H, mu⟩ j) l xs → ∀ x ∈ xs, (nestedKind X.prog X.w).is s.heap x.1 x.2.1 := by
    intro l xs h
    induction h with
    | nil => intro x hx; cases hx
    | @cons p x l' xs' r t ih =>
      intro y hy
      rcases List.mem_cons.mp hy with rfl | hy
      · obtain ⟨q1, q2, q3, _, _⟩ := r
        obtain ⟨b, e1, e2, e3⟩ := isKey_is I q1 q3 (u := .ref y.2.1) rfl
        cases e1
        rw [q2]
        exact e3
      · exact ih y hy
  exact key h5
theorem dct_new {P : Program} {w : World} {H' : Hp} {h' : Heap} {xs : List (NestedKey × Addr × Value)} (d : h'.DictOfH (nestedKind P w) a xs) : ObjOk P w H' h' a (DctO P w a xs) := by
  obtain ⟨o, es, ep, g1, g2, g3, g4, _, _⟩ := d
  refine ⟨⟨o, es, ep, g1, g2, g3, g4⟩, ⟨o, g1⟩, fun h1 h2 p k => ?_⟩
  obtain ⟨o, es, ep, g1, g2, g3, g4⟩ := p
  exact ⟨o, es, ep, k o g1, g2, g3, g4⟩
theorem room_k {A : Around} (hu : A.units + 65 < cLine) : (nestedKind X.prog X.w).room A.in1 := by
  show A.units + 1 + 8 < cLine
  omega
/-! ### dicts whose keys are numbers and texts -/
def dkget (k : Key) (l : List (D × D)) : Option D := (l.find? fun p => decide (D.key1 p.1 = some k)).map (·.2)
def dkset (k : Key) (kd v : D) (l : List (D × D)) : List (D × D) := if (l.any fun p => decide (D.key1 p.1 = some k)) = true then l.map fun p => if D.key1 p.1 = some k then (p.1, v) else p else l ++ [(kd, v)]
theorem key1_kV {K : Kb} {W : Wd} {d : D} {v : V} {k : Key} (h : D.key1 d = some k) (r : DRel K W d v) : v = kV k := by
  cases d with
  | int i => cases h; exact r
  | str x => cases h; exact r
  | _ => cases h
theorem dkget_rel {K : Kb} {W : Wd} {i : Nat} (k : Key) : ∀ {l : List (D × D)} {kvs : List (Key × V)}, Paired (KSR K W i) l kvs → (∀ d, dkget k l = some d → ∃ v, valV kvs k = some v ∧ DRel K W d v) ∧ (dkget k l = none → valV kvs k = none)
  | _, _, .nil => ⟨fun d h => by simp [dkget] at h, fun _ => rfl⟩
  | _, _, .cons (a := p) (b := x) (l₁ := l) (l₂ := kvs) r t => by
    obtain ⟨h1, h2, h3⟩ := r
    by_cases e : x.1 = k
    · have e1 : D.key1 p.1 = some k := by rw [h1, e]
      rw [valV_pos e]
      refine ⟨fun d h => ?_, fun h => ?_⟩
      · simp only [dkget, List.find?_cons, e1, decide_true, Option.map_some, Option.some.injEq] at h
        subst h
        exact ⟨x.2, rfl, h2⟩
      · simp [dkget, List.find?_cons, e1] at h
    · have e1 : ¬ D.key1 p.1 = some k := by rw [h1]; simpa using e
      rw [valV_neg e]
      have := dkget_rel k t
      simp only [dkget, List.find?_cons, e1, decide_false] at this ⊢
      exact this
theorem dkget_some {K : Kb} {W : Wd} {i : Nat} (k : Key) {l : List (D × D)} {kvs : List (Key × V)} (h : Paired (KSR K W i) l kvs) : (valV kvs k).isSome = (dkget k l).isSome := by
  obtain ⟨h1, h2⟩ := dkget_rel k h
  cases e : dkget k l with
  | none => rw [h2 e]; rfl
  | some d => obtain ⟨v, hv, _⟩ := h1 d e; rw [hv]; rfl
theorem dkany {K : Kb} {W : Wd} {i : Nat} (k : Key) : ∀ {l : List (D × D)} {kvs : List (Key × V)}, Paired (KSR K W i) l kvs → (l.any fun p => decide (D.key1 p.1 = some k)) = kvs.any fun kv => decide (kv.1 = k)
  | _, _, .nil => rfl
  | _, _, .cons (a := p) (b := x) r t => by
    simp only [List.any_cons, dkany k t, r.1, Option.some.injEq]
theorem dkset_rel {K : Kb} {W : Wd} {i : Nat} {kd v : D} {vv : V} {k : Key} (hk : D.key1 kd = some k) (hv : DRel K W v vv) (hb : D.bel i v = true) {l : List (D × D)} {kvs : List (Key × V)} (h : Paired (KSR K W i) l kvs) : Paired (KSR K W i) (dkset k kd v l) (putK kvs k vv) := by
  unfold dkset putK
  rw [dkany k h]
  split
  · have key : ∀ {l : List (D × D)} {kvs : List (Key × V)}, Paired (KSR K W i) l kvs → Paired (KSR K W i) (l.map fun p => if D.key1 p.1 = some k then (p.1, v) else p) (kvs.map fun kv => if kv.1 = k then (kv.1, vv) else kv) := by
      intro l kvs h
      induction h with
      | nil => exact .nil
      | @cons p x l kvs r t ih =>
        refine .cons ?_ ih
        obtain ⟨h1, h2, h3⟩ := r
        show KSR K W i (if D.key1 p.1 = some k then (p.1, v) else p) (if x.1 = k then (x.1, vv) else x)
        by_cases e : x.1 = k
        · have e1 : D.key1 p.1 = some k := by rw [h1, e]
          rw [if_pos e1, if_pos e]
          exact ⟨h1, hv, hb⟩
        · have e1 : ¬ D.key1 p.1 = some k := by rw [h1]; simpa using e
          rw [if_neg e1, if_neg e]
          exact ⟨h1, h2, h3⟩
    exact key h
  · exact paired_app h (.cons ⟨hk, hv, hb⟩ .nil)
theorem dks_at {lk : Bool} (mr : MRel (kb X) ⟨H, mu⟩ M) (ha : mu.l[j]? = some a) (e : M[j]? = some (.dks lk l)) : ∃ kvs, LkH ⟨H, mu⟩ a lk (.dK kvs) ∧ Paired (KSR (kb X) ⟨H, mu⟩ j) l kvs := mr.obj j a _ ha e
end
end RI

set_option maxHeartbeats 4000000
namespace RI
open PySem PySem.Spec PyProof.Rows L2
variable {T : Tb} {C : CC}

/-- a dict -/
def dctD (M : Mem) : D → Option (List (D × D))
  | .obj i => match M[i]? with
    | some (.dct _ l) => some l
    | _ => none
  | _ => none
def dksD (M : Mem) : D → Option (List (D × D))
  | .obj i => match M[i]? with
    | some (.dks _ l) => some l
    | _ => none
  | _ => none
theorem dctD_obj {M : Mem} {d : D} {l : List (D × D)} (h : dctD M d = some l) : ∃ j lk, d = .obj j ∧ M[j]? = some (.dct lk l) := by
  cases d with
  | obj j =>
    simp only [dctD] at h
    split at h
    · rename_i lk l' e; exact ⟨j, lk, rfl, by rw [e]; cases h; rfl⟩
    · cases h
  | _ => simp [dctD] at h
theorem dksD_obj {M : Mem} {d : D} {l : List (D × D)} (h : dksD M d = some l) : ∃ j lk, d = .obj j ∧ M[j]? = some (.dks lk l) := by
  cases d with
  | obj j =>
    simp only [dksD] at h
    split at h
    · rename_i lk l' e; exact ⟨j, lk, rfl, by rw [e]; cases h; rfl⟩
    · cases h
  | _ => simp [dksD] at h
theorem dctD_none {M : Mem} {d : D} {l : List D} (h : seqD M d = some l) : dctD M d = none := by
  cases d with
  | obj j =>
    simp only [seqD] at h
    simp only [dctD]
    split at h
    · rename_i l' e; rw [e]
    · cases h
  | _ => rfl
theorem dksD_none {M : Mem} {d : D} {l : List D} (h : seqD M d = some l) : dksD M d = none := by
  cases d with
  | obj j =>
    simp only [seqD] at h
    simp only [dksD]
    split at h
    · rename_i l' e; rw [e]
    · cases h
  | _ => rfl
/-! ### x in a list or tuple -/
def inK (neg : Bool) (x : D) (l : List (D × D)) (M : Mem) : Res D := if D.isKey x = true then .ok (.bl (if neg then !(dgetD (D.toK x) l).isSome else (dgetD (D.toK x) l).isSome)) M else .bad
def inS (neg : Bool) (x y : D) (M : Mem) : Res D := match seqD M y with
  | some l => if (D.noObj x && D.noObjs l && SeqAt.shaped (D.toP x) && PyData.canLayAll0 (D.toPs l)) = true then
      .ok (.bl (if neg then !(D.toPs l).any fun z => PyData.eqv z (D.toP x) else (D.toPs l).any fun z => PyData.eqv z (D.toP x))) M else .bad
  | none => .bad
def inKs (neg : Bool) (x : D) (l : List (D × D)) (M : Mem) : Res D := match D.key1 x with
  | some k => .ok (.bl (if neg then !(dkget k l).isSome else (dkget k l).isSome)) M
  | none => .bad
def inD (neg : Bool) (x y : D) (M : Mem) : Res D := match dctD M y with
  | some l => inK neg x l M
  | none => match dksD M y with
    | some l => inKs neg x l M
    | none => inS neg x y M
theorem seqD_dp {K : Kb} {W : Wd} {M : Mem} {d : D} {l : List D} {v : V} (m : MRel K W M) (h : seqD M d = some l) (b : D.noObjs l = true) (r : DRel K W d v) : Dp K.K W.H v (.list (D.toPs l)) ∨ Dp K.K W.H v (.tuple (D.toPs l)) := by
  obtain ⟨a, xs, rfl, q, dr⟩ := seqD_at m h r
  rcases q with q | q
  · exact .inl (.lst q (D.dps l xs b dr))
  · exact .inr (.tup q (D.dps l xs b dr))
theorem room_in {A : Around} {d : PyData} {n : Nat} (h : SeqAt.shaped d = true) (hu : A.units + 65 < cLine) : A.units + 1 + min n d.depth < cLine := by
  have h1 := SeqAt.depth_of_shaped h
  have h2 : min n d.depth ≤ d.depth := Nat.min_le_right _ _
  omega
theorem or_in {X : Cx} (hu : X.A.units + 65 < cLine) : OpR X (compareOp .In) (rB (kb X) (inD false)) := by
  intro pins s σ H x y v u Q I rx ry h
  obtain ⟨mu, M, dx, dy, mr, hx, hy, sat⟩ := h
  unfold inD at sat
  split at sat
  · rename_i l e
    obtain ⟨j, lk, rfl, ej⟩ := dctD_obj e
    obtain ⟨hk, sat⟩ := sat_ite sat
    simp only [DRel] at hy
    obtain ⟨a, rfl, ha⟩ := hy
    cases ry
    obtain ⟨ka, rfl, rfl, hki⟩ := isKey_is I hk hx rx
    obtain ⟨xs, h1, hd, h3, h4, h5⟩ := dct_at I mr ha ej
    have q := sat.ok mr _ rfl
    rw [← dget_some (D.toK dx) h5] at q
    exact wpAny_in_heap (room_k hu) hki h4 hd ⟨.bl _, H, I.tok _, rfl, q⟩
  split at sat
  · rename_i l e
    obtain ⟨j, lk, rfl, ej⟩ := dksD_obj e
    unfold inKs at sat
    split at sat
    · rename_i k ek
      simp only [DRel] at hy
      obtain ⟨a, rfl, ha⟩ := hy
      cases ry
      have hxk := key1_kV ek hx
      obtain ⟨kvs, g1, g2⟩ := dks_at mr ha ej
      have q := sat.ok mr _ rfl
      rw [← dkget_some k g2] at q
      exact d_in (by omega) I (.inl ⟨kvs, k, g1.rd, hxk, rfl⟩) rx fun s' I' => ⟨.bl _, H, I', rfl, q⟩
    · exact sat.elim
  unfold inS at sat
  split at sat
  · rename_i l e
    obtain ⟨hc, sat⟩ := sat_ite sat
    simp only [Bool.and_eq_true] at hc
    obtain ⟨⟨⟨h1, h2⟩, h3⟩, h4⟩ := hc
    obtain ⟨as, r1⟩ := Dp.reads I _ x v (D.dp dx x h1 hx) rx
    have q := sat.ok mr _ rfl
    rcases seqD_dp mr e h2 hy with hd | hd
    · obtain ⟨bs, r2⟩ := Dp.reads I _ y u hd ry
      exact SeqAt.in_list_reads r2 r1 h4 (SeqAt.canLay_of_shaped h3) (room_in h3 hu) ⟨.bl _, H, I, rfl, q⟩
    · obtain ⟨bs, r2⟩ := Dp.reads I _ y u hd ry
      exact SeqAt.in_tuple_reads r2 r1 h4 (SeqAt.canLay_of_shaped h3) (room_in h3 hu) ⟨.bl _, H, I, rfl, q⟩
  · exact sat.elim
theorem or_notin {X : Cx} (hu : X.A.units + 65 < cLine) : OpR X (compareOp .NotIn) (rB (kb X) (inD true)) := by
  intro pins s σ H x y v u Q I rx ry h
  obtain ⟨mu, M, dx, dy, mr, hx, hy, sat⟩ := h
  unfold inD at sat
  split at sat
  · rename_i l e
    obtain ⟨j, lk, rfl, ej⟩ := dctD_obj e
    obtain ⟨hk, sat⟩ := sat_ite sat
    simp only [DRel] at hy
    obtain ⟨a, rfl, ha⟩ := hy
    cases ry
    obtain ⟨ka, rfl, rfl, hki⟩ := isKey_is I hk hx rx
    obtain ⟨xs, h1, hd, h3, h4, h5⟩ := dct_at I mr ha ej
    have q := sat.ok mr _ rfl
    rw [← dget_some (D.toK dx) h5] at q
    have q : Q (.bl (!(valueAt (pairsH xs) (D.toK dx)).isSome)) H := by rw [valueAt_pairsH, Option.isSome_map]; exact q
    exact notIn_keyed (room_k hu) hki h4 ⟨xs, hd, rfl⟩ ⟨.bl _, H, I.tok _, rfl, q⟩
  split at sat
  · rename_i l e
    obtain ⟨j, lk, rfl, ej⟩ := dksD_obj e
    unfold inKs at sat
    split at sat
    · rename_i k ek
      simp only [DRel] at hy
      obtain ⟨a, rfl, ha⟩ := hy
      cases ry
      have hxk := key1_kV ek hx
      obtain ⟨kvs, g1, g2⟩ := dks_at mr ha ej
      have q := sat.ok mr _ rfl
      rw [← dkget_some k g2] at q
      exact d_notIn (by omega) I (.inl ⟨kvs, k, g1.rd, hxk, rfl⟩) rx fun s' I' => ⟨.bl _, H, I', rfl, q⟩
    · exact sat.elim
  unfold inS at sat
  split at sat
  · rename_i l e
    obtain ⟨hc, sat⟩ := sat_ite sat
    simp only [Bool.and_eq_true] at hc
    obtain ⟨⟨⟨h1, h2⟩, h3⟩, h4⟩ := hc
    obtain ⟨as, r1⟩ := Dp.reads I _ x v (D.dp dx x h1 hx) rx
    have q := sat.ok mr _ rfl
    rcases seqD_dp mr e h2 hy with hd | hd
    · obtain ⟨bs, r2⟩ := Dp.reads I _ y u hd ry
      exact SeqAt.notIn_list_reads r2 r1 h4 (SeqAt.canLay_of_shaped h3) (room_in h3 hu) ⟨.bl _, H, I, rfl, q⟩
    · obtain ⟨bs, r2⟩ := Dp.reads I _ y u hd ry
      exact SeqAt.notIn_tuple_reads r2 r1 h4 (SeqAt.canLay_of_shaped h3) (room_in h3 hu) ⟨.bl _, H, I, rfl, q⟩
  · exact sat.elim

/-! ### items and slices -/
def ixT (x : D) (i : Int) (M : Mem) : Res D := match x with
  | .str z => if z.length ≤ LIM then (match atI z i with | some c => .ok (.str [c]) M | none => .bad) else .bad
  | _ => .bad
def ixS (x y : D) (M : Mem) : Res D := match y with
  | .int i => match seqD M x with
    | some l => match atI l i with
      | some d => .ok d M
      | none => .bad
    | none => ixT x i M
  | _ => .bad
def ixK (l : List (D × D)) (y : D) (M : Mem) : Res D := if D.isKey y = true then (match dgetD (D.toK y) l with | some d => .ok d M | none => .bad) else .bad
def ixKs (l : List (D × D)) (y : D) (M : Mem) : Res D := match D.key1 y with
  | some k => (match dkget k l with | some d => .ok d M | none => .bad)
  | none => .bad
def ixD (x y : D) (M : Mem) : Res D := match dctD M x with
  | some l => ixK l y M
  | none => match dksD M x with
    | some l => ixKs l y M
    | none => ixS x y M
theorem atI_rel {K : Kb} {W : Wd} {l : List D} {xs : List V} {i : Int} {d : D} (r : DRels K W l xs) (h : atI l i = some d) : ∃ v, atI xs i = some v ∧ DRel K W d v := by
  unfold atI at h ⊢
  rw [← r.length]
  cases e : ixN l.length i with
  | none => rw [e] at h; cases h
  | some j =>
    rw [e] at h
    simp only [Option.bind_some] at h ⊢
    exact r.get h
theorem ixr_at {X : Cx} (hu : X.A.units + 65 < cLine) : IxR X (rB (kb X) ixD) := by
  intro value slice pins s σ H x y v u Q I rx ry h hsub
  obtain ⟨mu, M, dx, dy, mr, hx, hy, sat⟩ := h
  unfold ixD at sat
  split at sat
  · rename_i l e
    obtain ⟨j, lk, rfl, ej⟩ := dctD_obj e
    obtain ⟨hk, sat⟩ := sat_ite sat
    simp only [DRel] at hx
    obtain ⟨a, rfl, ha⟩ := hx
    cases rx
    obtain ⟨ka, rfl, rfl, hki⟩ := isKey_is I hk hy ry
    obtain ⟨xs, h1, hd, h3, h4, h5⟩ := dct_at I mr ha ej
    split at sat
    · rename_i d ed
      obtain ⟨p, hp, v, dv, rv⟩ := (dget_rel (D.toK dy) h5).1 d ed
      exact tail_any hd.typeIs slot_dict_getitem.lookup (wpAny_getItem_heap (room_k hu) hki hd hp ⟨v, H, I.tok _, rv, sat.ok mr _ dv⟩) hsub
    · exact sat.elim
  split at sat
  · rename_i l e
    obtain ⟨j, lk, rfl, ej⟩ := dksD_obj e
    unfold ixKs at sat
    split at sat
    · rename_i k ek
      simp only [DRel] at hx
      obtain ⟨a, rfl, ha⟩ := hx
      cases rx
      have hyk := key1_kV ek hy
      obtain ⟨kvs, g1, g2⟩ := dks_at mr ha ej
      split at sat
      · rename_i d ed
        obtain ⟨v, hv, dv⟩ := (dkget_rel k g2).1 d ed
        have g : DGet H a y (some v) := .inl ⟨kvs, k, g1.rd, hyk, hv.symm⟩
        exact tail_any (dict_typeIs I g) slot_dict_getitem.lookup (d_getItem (by omega) I g ry fun w' s3 I3 rw' => ⟨v, H, I3, rw', sat.ok mr _ dv⟩) hsub
      · exact sat.elim
    · exact sat.elim
  unfold ixS at sat
  split at sat
  · rename_i i
    split at sat
    · rename_i l e
      split at sat
      · rename_i d ed
        cases (show y = _ from hy)
        obtain ⟨a, xs, rfl, q, dr⟩ := seqD_at mr e hx
        obtain ⟨w, ew, dw⟩ := atI_rel dr ed
        refine ix_seq value slice pins s σ H _ _ v u Q I rx ry ?_ hsub
        rcases q with q | q
        · exact .inl ⟨a, xs, i, w, rfl, rfl, q, ew, sat.ok mr _ dw⟩
        · exact .inr (.inl ⟨a, xs, i, w, rfl, rfl, q, ew, sat.ok mr _ dw⟩)
      · exact sat.elim
    · unfold ixT at sat
      split at sat
      · rename_i z
        obtain ⟨hz, sat⟩ := sat_ite sat
        split at sat
        · rename_i c ec
          cases (show y = _ from hy); cases (show x = _ from hx)
          refine ix_seq value slice pins s σ H _ _ v u Q I rx ry (.inr (.inr ⟨_, i, c, rfl, rfl, ?_, by simpa using ec, ?_⟩)) hsub
          · rw [str_len, ← lim_eq]; exact hz
          · exact sat.ok mr _ rfl
        · exact sat.elim
      · exact sat.elim
  · exact sat.elim
def noSlice : Expr → Bool
  | .Slice .. => false
  | _ => true
theorem noSlice_ix {b : Expr} (h : noSlice b = true) : PlainIx b := by
  intro o i
  cases b <;> first | rfl | cases h
theorem ok_ix {a b : Expr} {pos : Pos} {ma mb : ME} (hs : noSlice b = true) (ha : OkE T C a ma) (hb : OkE T C b mb) : OkE T C (.Subscript a b pos) (mB ixD ma mb) := by
  intro n X wx h
  exact PE.of (pe_ix (ixr_at (by have := h.un; omega)) (ha n X wx h) (hb n X wx h) (noSlice_ix hs)) fun s H Q q => tOp_of q
def cutD (l : List D) (lo hi : Option Int) : List D := (l.drop (HT.sIx l.length 0 lo)).take (HT.sIx l.length l.length hi - HT.sIx l.length 0 lo)
theorem cut_rel {K : Kb} {W : Wd} {l : List D} {xs : List V} (r : DRels K W l xs) (lo hi : Option Int) : DRels K W (cutD l lo hi) (cutV xs lo hi) := by
  unfold cutD cutV
  rw [r.length]
  exact (r.drop _).take _
def slD (x : D) (lo hi : Option Int) (M : Mem) : Res D := match x with
  | .tup l => .ok (.tup (cutD l lo hi)) M
  | x => match lstD M x with
    | some l => .ok (.lst (cutD l lo hi)) M
    | none => .bad
def rSlD (K : Kb) : V → Option Int → Option Int → Hp → VK → Prop := fun x lo hi H Q => ∃ mu M dx, MRel K ⟨H, mu⟩ M ∧ DRel K ⟨H, mu⟩ dx x ∧ Sat K.no ⟨H, mu⟩ (slD dx lo hi M) (PV K Q)
theorem cut_whole {α : Type} (l : List α) (lo hi : Option Int) (h : HT.sIx l.length 0 lo = 0 ∧ HT.sIx l.length l.length hi = l.length) : (l.drop (HT.sIx l.length 0 lo)).take (HT.sIx l.length l.length hi - HT.sIx l.length 0 lo) = l := by
  rw [h.1, h.2]; simp
theorem slr_d {X : Cx} : SlR X (rSlD (kb X)) := by
  intro pins s σ H x v vl vu lo hi sl Q I rx hs pl pu h
  obtain ⟨mu, M, dx, mr, hx, sat⟩ := h
  unfold slD at sat
  split at sat
  · rename_i l
    simp only [DRel] at hx
    obtain ⟨a, xs, rfl, t, r⟩ := hx
    refine sl_tupA pins s σ H _ v vl vu lo hi sl Q I rx hs pl pu ⟨a, xs, rfl, t.sq, fun hw => ?_, fun _ p hp => new_tup mr (cut_rel r lo hi) sat hp⟩
    refine sat.ok mr _ ?_
    have e : cutD l lo hi = l := cut_whole l lo hi (by rw [r.length]; exact hw)
    rw [e]
    simp only [DRel]
    exact ⟨a, xs, rfl, t, r⟩
  · split at sat
    · rename_i l e
      obtain ⟨a, xs, rfl, q, r⟩ := lstD_at mr e hx
      exact sl_list pins s σ H _ v vl vu lo hi sl Q I rx hs pl pu ⟨a, xs, rfl, q, fun p hp => new_lst mr (cut_rel r lo hi) sat hp⟩
    · exact sat.elim
abbrev MO' := FT → EV → Mem → Res (Option Int)
def rdO (K : Kx) (F : FT) (m : MO') : TO := fun s H Q => At K s H fun mu r M => Sat (K.at s) ⟨H, mu⟩ (m F r M) (fun o _ W => Q o W.H)
def mNoPart : MO' := fun _ _ M => .ok none M
def mPart (m : ME) : MO' := fun F r M => (m F r M).bind fun d M1 => match d with
  | .int i => .ok (some i) M1
  | _ => .bad
def OkO (T : Tb) (C : CC) (e : Option Expr) (m : MO') : Prop := ∀ n X wx, CxOk T n C X wx → PO X e (rdO (kx X wx) (callF T n) m)
theorem PO.of {X : Cx} {e : Option Expr} {t t' : TO} (h : PO X e t) (f : ∀ s H Q, t' s H Q → t s H Q) : PO X e t' := ⟨fun pins s σ H Q I q => h.run pins s σ H Q I (f σ H Q q)⟩
theorem ok_nopart : OkO T C none mNoPart := by
  intro n X wx h
  refine PO.of po_none fun s H Q q => ?_
  obtain ⟨mu, M, r, mr, sr, sat⟩ := q
  exact sat.ok mr
theorem ok_part {e : Expr} {m : ME} (he : OkE T C e m) : OkO T C (some e) (mPart m) := by
  intro n X wx h
  refine PO.of (po_some (he n X wx h)) fun s H Q q => ?_
  obtain ⟨mu, M, r, mr, sr, sat⟩ := q
  refine ⟨mu, M, r, mr, sr, sat.bind.imp fun d M1 W1 l1 m1 s1 v dv => ?_⟩
  cases d with
  | int i => cases (show v = _ from dv); exact ⟨i, rfl, s1.ok m1⟩
  | _ => exact s1.elim
def mSl (m : ME) (lo hi : MO') : ME := fun F r M => (m F r M).bind fun x M1 => (lo F r M1).bind fun i M2 => (hi F r M2).bind fun j M3 => (slD x i j M3).noX
theorem ok_slice {e : Expr} {lo hi : Option Expr} {p2 pos : Pos} {m : ME} {ml mh : MO'} (he : OkE T C e m) (hl : OkO T C lo ml) (hh : OkO T C hi mh) : OkE T C (.Subscript e (.Slice lo hi none p2) pos) (mSl m ml mh) := by
  intro n X wx h
  refine PE.of (pe_slice slr_d (he n X wx h) (hl n X wx h) (hh n X wx h)) fun s H Q q => ?_
  obtain ⟨mu, M, r, mr, sr, sat⟩ := q
  refine ⟨mu, M, r, mr, sr, sat.bind.imp fun d M1 W1 l1 m1 s1 v dv => ?_⟩
  refine ⟨W1.mu, M1, r, m1, sr.le l1, s1.bind.imp fun i M2 W2 l2 m2 s2 => ?_⟩
  refine ⟨W2.mu, M2, r, m2, sr.le (l1.trans l2), s2.bind.imp fun j M3 W3 l3 m3 s3 => ?_⟩
  exact ⟨W3.mu, M3, d, m3, DRel.le (l2.trans l3) d v dv, s3.noX⟩

/-! ### tests -/
def mAnd (a b : MT) : MT := fun F r M => (a F r M).bind fun c M1 => if c then b F r M1 else .ok false M1
def mOr (a b : MT) : MT := fun F r M => (a F r M).bind fun c M1 => if c then .ok true M1 else b F r M1
def mNot (a : MT) : MT := fun F r M => (a F r M).bind fun c M1 => .ok (!c) M1
def OkW (T : Tb) (C : CC) (e : Expr) (m : MT) : Prop := ∀ n X wx, CxOk T n C X wx → PW X e (rdT (kx X wx) (callF T n) m)
theorem PW.of {X : Cx} {e : Expr} {t t' : TT} (h : PW X e t) (f : ∀ s H Q, t' s H Q → t s H Q) : PW X e t' := ⟨fun wh pins s σ H Q I q => h.run wh pins s σ H Q I (f σ H Q q)⟩
theorem ok_wt {e : Expr} {m : MT} (h : OkW T C e m) : OkT T C e m := fun n X wx q => (h n X wx q).pt
theorem ok_and1 {a : Expr} {pos : Pos} {m : MT} (h : OkT T C a m) : OkW T C (.BoolOp .And [a] pos) m := fun n X wx q => pw_and1 (h n X wx q)
theorem ok_or1 {a : Expr} {pos : Pos} {m : MT} (h : OkT T C a m) : OkW T C (.BoolOp .Or [a] pos) m := fun n X wx q => pw_or1 (h n X wx q)
theorem ok_and {a b : Expr} {r : List Expr} {pos : Pos} {m m' : MT} (h : OkT T C a m) (h' : OkW T C (.BoolOp .And (b :: r) pos) m') : OkW T C (.BoolOp .And (a :: b :: r) pos) (mAnd m m') := by
  intro n X wx q
  refine PW.of (pw_and (h n X wx q) (h' n X wx q)) fun s H Q w => ?_
  obtain ⟨mu, M, r, mr, sr, sat⟩ := w
  refine ⟨mu, M, r, mr, sr, sat.bind.imp fun c M1 W1 l1 m1 s1 => ?_⟩
  cases c with
  | true => exact iteT ⟨W1.mu, M1, r, m1, sr.le l1, s1⟩
  | false => exact iteF (Sat.ok (a := false) s1 m1)
theorem ok_or {a b : Expr} {r : List Expr} {pos : Pos} {m m' : MT} (h : OkT T C a m) (h' : OkW T C (.BoolOp .Or (b :: r) pos) m') : OkW T C (.BoolOp .Or (a :: b :: r) pos) (mOr m m') := by
  intro n X wx q
  refine PW.of (pw_or (h n X wx q) (h' n X wx q)) fun s H Q w => ?_
  obtain ⟨mu, M, r, mr, sr, sat⟩ := w
  refine ⟨mu, M, r, mr, sr, sat.bind.imp fun c M1 W1 l1 m1 s1 => ?_⟩
  cases c with
  | true => exact iteT (Sat.ok (a := true) s1 m1)
  | false => exact iteF ⟨W1.mu, M1, r, m1, sr.le l1, s1⟩
theorem ok_tnot {a : Expr} {pos : Pos} {m : MT} (h : OkT T C a m) : OkT T C (.UnaryOp .Not a pos) (mNot m) := by
  intro n X wx q
  refine PT.of (pt_not (h n X wx q)) fun s H Q w => ?_
  obtain ⟨mu, M, r, mr, sr, sat⟩ := w
  exact ⟨mu, M, r, mr, sr, sat.bind.imp fun c M1 W1 l1 m1 s1 => Sat.ok s1 m1⟩
/-- as values (bools) -/
def mAndV (a b : ME) : ME := fun F r M => (mTB a F r M).bind fun c M1 => if c then b F r M1 else .ok (.bl false) M1
def mOrV (a b : ME) : ME := fun F r M => (mTB a F r M).bind fun c M1 => if c then .ok (.bl true) M1 else b F r M1
def mNotV (a : ME) : ME := fun F r M => (mTB a F r M).bind fun c M1 => .ok (.bl (!c)) M1
theorem ok_one {op} {a : Expr} {pos : Pos} {m : ME} (h : OkE T C a m) : OkE T C (.BoolOp op [a] pos) m := fun n X wx q => pe_one (h n X wx q)
theorem mTB_at {K : Kx} {F : FT} {m : ME} {r : EV} {M : Mem} {W : Wd} {P : Bool → Mem → Wd → Prop} (h : Sat K W (mTB m F r M) P) : Sat K W (m F r M) (fun d M1 W1 => ∃ c, d = .bl c ∧ P c M1 W1) := by
  refine h.bind.imp fun d M1 W1 l1 m1 s1 => ?_
  cases d with
  | bl c => exact ⟨c, rfl, s1.ok m1⟩
  | _ => exact s1.elim
theorem ok_andV {a b : Expr} {r : List Expr} {pos : Pos} {m m' : ME} (h : OkE T C a m) (h' : OkE T C (.BoolOp .And (b :: r) pos) m') : OkE T C (.BoolOp .And (a :: b :: r) pos) (mAndV m m') := by
  intro n X wx q
  refine PE.of (pe_and (h n X wx q) (h' n X wx q)) fun s H Q w => ?_
  obtain ⟨mu, M, r, mr, sr, sat⟩ := w
  refine ⟨mu, M, r, mr, sr, (mTB_at sat.bind).imp fun d M1 W1 l1 m1 s1 v dv => ?_⟩
  obtain ⟨c, rfl, s1⟩ := s1
  cases (show v = _ from dv)
  refine ⟨c, rfl, ?_⟩
  cases c with
  | true => exact iteT ⟨W1.mu, M1, r, m1, sr.le l1, s1⟩
  | false => exact iteF (Sat.ok (show Sat _ _ (Res.ok (D.bl false) M1) _ from s1) m1 _ rfl)
theorem ok_orV {a b : Expr} {r : List Expr} {pos : Pos} {m m' : ME} (h : OkE T C a m) (h' : OkE T C (.BoolOp .Or (b :: r) pos) m') : OkE T C (.BoolOp .Or (a :: b :: r) pos) (mOrV m m') := by
  intro n X wx q
  refine PE.of (pe_or (h n X wx q) (h' n X wx q)) fun s H Q w => ?_
  obtain ⟨mu, M, r, mr, sr, sat⟩ := w
  refine ⟨mu, M, r, mr, sr, (mTB_at sat.bind).imp fun d M1 W1 l1 m1 s1 v dv => ?_⟩
  obtain ⟨c, rfl, s1⟩ := s1
  cases (show v = _ from dv)
  refine ⟨c, rfl, ?_⟩
  cases c with
  | true => exact iteT (Sat.ok (show Sat _ _ (Res.ok (D.bl true) M1) _ from s1) m1 _ rfl)
  | false => exact iteF ⟨W1.mu, M1, r, m1, sr.le l1, s1⟩
theorem ok_notV {a : Expr} {pos : Pos} {m : ME} (h : OkE T C a m) : OkE T C (.UnaryOp .Not a pos) (mNotV m) := by
  intro n X wx q
  refine PE.of (pe_not (h n X wx q)) fun s H Q w => ?_
  obtain ⟨mu, M, r, mr, sr, sat⟩ := w
  refine ⟨mu, M, r, mr, sr, (mTB_at sat.bind).imp fun d M1 W1 l1 m1 s1 v dv => ?_⟩
  obtain ⟨c, rfl, s1⟩ := s1
  cases (show v = _ from dv)
  exact ⟨c, rfl, s1.ok m1 _ rfl⟩
def mIf (c : MT) (a b : ME) : ME := fun F r M => (c F r M).bind fun k M1 => if k then a F r M1 else b F r M1
theorem ok_if {c a b : Expr} {pos : Pos} {mc : MT} {ma mb : ME} (hc : OkT T C c mc) (ha : OkE T C a ma) (hb : OkE T C b mb) : OkE T C (.IfExp c a b pos) (mIf mc ma mb) := by
  intro n X wx q
  refine PE.of (pe_ifExp (hc n X wx q) (ha n X wx q) (hb n X wx q)) fun s H Q w => ?_
  obtain ⟨mu, M, r, mr, sr, sat⟩ := w
  refine ⟨mu, M, r, mr, sr, sat.bind.imp fun k M1 W1 l1 m1 s1 => ?_⟩
  cases k with
  | true => exact iteT ⟨W1.mu, M1, r, m1, sr.le l1, s1⟩
  | false => exact iteF ⟨W1.mu, M1, r, m1, sr.le l1, s1⟩
/-- truth of a value of any kind -/
def truD (d : D) (M : Mem) : Res Bool := match d with
  | .non => .ok false M
  | .bl b => .ok b M
  | .int i => .ok (i != 0) M
  | d => match seqD M d with
    | some l => .ok (!l.isEmpty) M
    | none => .bad
def mTru (m : ME) : MT := fun F r M => (m F r M).bind fun d M1 => truD d M1
def plainTest : Expr → Bool
  | .UnaryOp .Not _ _ => false
  | .BoolOp .. => false
  | .IfExp .. => false
  | .Compare .. => false
  | _ => true
theorem plain_isTrue {e : Expr} {env : Env} (h : plainTest e = true) : ∀ whole, isTrue e env whole = (do let v ← whole; standAt e.pos; holding [v] (truthy v)) := by
  intro whole
  cases e <;> first | rfl | cases h | skip
  rename_i op x p
  cases op <;> first | rfl | cases h
theorem isEmpty_rel {K : Kb} {W : Wd} {l : List D} {xs : List V} (r : DRels K W l xs) : xs.isEmpty = l.isEmpty := by
  have := r.length
  cases l <;> cases xs <;> simp at this ⊢
theorem tru_of {K : Kx} {W : Wd} {M : Mem} {d : D} {v : V} {P : Bool → Mem → Wd → Prop} (m : MRel K W M) (h : Sat K W (truD d M) P) (r : DRel K W d v) : ∃ k, TruV K.b.K v W.H k ∧ P k M W := by
  unfold truD at h
  split at h
  · cases (show v = _ from r); exact ⟨false, rfl, h.ok m⟩
  · cases (show v = _ from r); exact ⟨_, rfl, h.ok m⟩
  · cases (show v = _ from r); exact ⟨_, rfl, h.ok m⟩
  · split at h
    · rename_i l e
      obtain ⟨a, xs, rfl, q, dr⟩ := seqD_at m e r
      refine ⟨_, ?_, h.ok m⟩
      rcases q with q | q
      · exact .inl ⟨xs, q, by rw [isEmpty_rel dr]⟩
      · exact .inr (.inl ⟨xs, q, by rw [isEmpty_rel dr]⟩)
    · exact h.elim
theorem ok_tru {e : Expr} {m : ME} (hp : plainTest e = true) (h : OkE T C e m) : OkT T C e (mTru m) := by
  intro n X wx q
  refine PT.of (pt_truth (h n X wx q) (plain_isTrue hp)) fun s H Q w => ?_
  obtain ⟨mu, M, r, mr, sr, sat⟩ := w
  refine ⟨mu, M, r, mr, sr, sat.bind.imp fun d M1 W1 l1 m1 s1 v dv => ?_⟩
  obtain ⟨k, t, p⟩ := tru_of m1 s1 dv
  exact ⟨k, t, p⟩
end RI

set_option maxHeartbeats 4000000
namespace RI
open PySem PySem.Spec PyProof.Rows L2
variable {T : Tb} {C : CC}

/-! ### calls -/
theorem noStars_any {env : Env} {pos : Pos} : ∀ {es : List Expr}, es.all noStar = true → (backTo pos (starEach es env)).any (·.1) = false
  | [], _ => rfl
  | e :: es, h => by
    rw [List.all_cons, Bool.and_eq_true] at h
    rw [noStar_each h.1]
    show (false || (backTo pos (starEach es env)).any (·.1)) = false
    rw [noStars_any h.2]; rfl
theorem gl_of {n : Nat} {X : Cx} {wx : Ex → L2.St → Wd → Prop} (h : CxOk T n C X wx) {x : Str} (hg : C.sc.names.lookup x = some .globalImplicit) : Gl X x := by
  show X.env.kindOf x = _
  unfold Env.kindOf
  rw [h.sc]; exact hg
def mCall (k : Nat) (ms : MA) : ME := fun F r M => (ms F r M).bind fun ds M1 => F k ds M1
theorem callF_len {n k : Nat} {f : Fn} {ds : List D} {M : Mem} (hf : T.fns[k]? = some f) {K : Kx} {W : Wd} {P : D → Mem → Wd → Prop} (h : Sat K W (callF T n k ds M) P) : ds.length = f.ps.length := by
  cases n with
  | zero => exact h.elim
  | succ n =>
    simp only [callF, hf] at h
    by_cases hl : ds.length = f.ps.length
    · exact hl
    · rw [if_neg hl] at h; exact h.elim
section
variable {X : Cx} {k : Nat} {f : Addr} {fd : FuncData} {ps : List Str} {sp : Sp} {x : Str} {p pos : Pos} {e : Expr} {es : List Expr} {t : TA} {Wx : WX}
/-- the callee runs; what it lets out is wished of the slots that stand -/
theorem run_fnS {pins : List (Addr × Obj)} {σ : L2.St} {H : Hp} {s : Shared} {Q : VK} {us : List Value} {vs : List V} (F : FnOk X.prog X.w X.K X.mg X.base (L2.CX X.prog X.w) k f fd ps sp) (hr : Room k X.A) (hb : Binds X.K fd ps []) (tk : Takes X Wx)
    (I : Inv X pins σ H s) (r : Vals vs us) (h : sp vs H Q (fun cls d H' => Wx cls d σ H')) : wpAny (model X.prog X.w) X.A (call (.ref f) us) (EP X pins σ Q) X.xe s := by
  have hl : (us ++ []).length = ps.length := by rw [List.append_nil, ← r.length]; exact F.len _ _ _ _ h
  have hb' := hb s us I.kIn hl
  rw [List.append_nil] at hb'
  refine wpAny_call (codeAny_mono (F.run X.A X.stack s H ⟨us, []⟩ us vs Q _ hr I.env0 hb' r h) fun r s' hq => ?_)
  cases r with
  | error e => exact tk e s' (XE.of_call I (fun _ _ _ h => h) hq)
  | ok fl =>
    cases fl with
    | ret u => exact I.after hq
    | next => exact False.elim hq
    | brk => exact False.elim hq
    | cont => exact False.elim hq
theorem pe_callS (F : FnOk X.prog X.w X.K X.mg X.base (L2.CX X.prog X.w) k f fd ps sp) (hr : Room k X.A) (hg : Gl X x) (hm : X.mg x = some (.ref f)) (hk : PySem.W.keepIn X.K (.ref f) = true) (hb : Binds X.K fd ps []) (tk : Takes X Wx)
    (ha : PA X (e :: es) t) (hdb : (x == ("__debug__" : Str)) = false) (he : starEach (e :: es) X.env = (false, eval e X.env) :: starEach es X.env) (hpl : (backTo pos (starEach es X.env)).any (·.1) = false) :
    PE X (.Call (.Name x p) (e :: es) [] pos) (fun σ H Q => t σ H fun vs H1 => sp vs H1 Q (fun cls d H' => Wx cls d σ H')) := by
  refine ⟨fun pins s σ H Q I h => ?_⟩
  refine wpAny_Call_Name_kw (ld_glob I hg hm ?_ hdb)
  refine PySem.W.callWith_K (h₀ := X.base) I.ok.mod.kin hk (thn (ha.run pos pins s σ H _ I h) fun us s1 ⟨vs, H1, I1, r, q⟩ => ⟨I1.kIn, ?_⟩) he hpl
  exact run_fnS F hr hb tk I1 r q
theorem pe_callS0 (F : FnOk X.prog X.w X.K X.mg X.base (L2.CX X.prog X.w) k f fd ps sp) (hr : Room k X.A) (hg : Gl X x) (hm : X.mg x = some (.ref f)) (hk : PySem.W.keepIn X.K (.ref f) = true) (hb : Binds X.K fd ps []) (tk : Takes X Wx)
    (hdb : (x == ("__debug__" : Str)) = false) : PE X (.Call (.Name x p) [] [] pos) (fun σ H Q => sp [] H Q (fun cls d H' => Wx cls d σ H')) := by
  refine ⟨fun pins s σ H Q I h => ?_⟩
  refine wpAny_Call_Name_kw (ld_glob I hg hm ?_ hdb)
  exact PySem.W.callWith_K0 I.kIn hk (run_fnS (us := []) F hr hb tk I .nil h)
end
/-- the wish told by data is the wish told of the heap -/
theorem Sat.call {A : Type} {X : Cx} {wx : Ex → L2.St → Wd → Prop} {s : L2.St} {W : Wd} {r : Res A} {P : A → Mem → Wd → Prop} (h : Sat ((kx X wx).at s) W r P) : Sat ⟨kb X, xwOf (kb X) (fun cls d H' => wOf X wx cls d s H'), []⟩ W r P := by
  cases r with
  | ok a M => exact h
  | exc x M => exact fun W' l m cls d er => ⟨x, W'.mu, er, h W' l m⟩
  | bad => exact h
theorem ok_call (hq : C.calm = true) {k : Nat} {f : Fn} {x : Str} {p pos : Pos} {e : Expr} {es : List Expr} {ms : MA} (hf : T.fns[k]? = some f) (hx : f.name = x) (hw : f.wh = .glob) (hg : C.sc.names.lookup x = some .globalImplicit) (hdb : (x == ("__debug__" : Str)) = false)
    (hs : (e :: es).all noStar = true) (ha : OkA T C (e :: es) ms) : OkE T C (.Call (.Name x p) (e :: es) [] pos) (mCall k ms) := by
  intro n X wx h
  obtain ⟨a, fd, wh, hb, G⟩ := h.fns k f hf
  unfold FnWh at wh
  rw [hw] at wh
  obtain ⟨hm, hk⟩ := wh
  rw [hx] at hm
  rw [← h.kbq hq] at G
  rw [List.all_cons, Bool.and_eq_true] at hs
  refine PE.of (pe_callS G ((h.room hq).mono (Nat.le_succ _)) (gl_of h hg) hm hk hb h.tk (ha n X wx h) hdb (noStar_each hs.1) (noStars_any hs.2)) fun s H Q q => ?_
  obtain ⟨mu, M, r, mr, sr, sat⟩ := q
  refine ⟨mu, M, r, mr, sr, sat.bind.imp fun ds M1 W1 l1 m1 s1 vs dvs => ?_⟩
  exact ⟨by rw [← dvs.length]; exact callF_len hf s1, W1.mu, M1, ds, m1, dvs, s1.call⟩
theorem ok_call0 (hq : C.calm = true) {k : Nat} {f : Fn} {x : Str} {p pos : Pos} (hf : T.fns[k]? = some f) (hx : f.name = x) (hw : f.wh = .glob) (hg : C.sc.names.lookup x = some .globalImplicit) (hdb : (x == ("__debug__" : Str)) = false) : OkE T C (.Call (.Name x p) [] [] pos) (mCall k mNil) := by
  intro n X wx h
  obtain ⟨a, fd, wh, hb, G⟩ := h.fns k f hf
  unfold FnWh at wh
  rw [hw] at wh
  obtain ⟨hm, hk⟩ := wh
  rw [hx] at hm
  rw [← h.kbq hq] at G
  refine PE.of (pe_callS0 G ((h.room hq).mono (Nat.le_succ _)) (gl_of h hg) hm hk hb h.tk hdb) fun s H Q q => ?_
  obtain ⟨mu, M, r, mr, sr, sat⟩ := q
  have s1 : Sat ((kx X wx).at s) ⟨H, mu⟩ (callF T n k [] M) (PV (kb X) Q) := sat
  exact ⟨callF_len hf s1, mu, M, [], mr, rfl, s1.call⟩
/-- built-ins by values -/
def rC (K : Kb) (f : List D → Mem → Res D) : List V → Hp → VK → Prop := fun xs H Q => ∃ mu M ds, MRel K ⟨H, mu⟩ M ∧ DRels K ⟨H, mu⟩ ds xs ∧ Sat K.no ⟨H, mu⟩ (f ds M) (PV K Q)
def mBl (f : List D → Mem → Res D) (ms : MA) : ME := fun F r M => (ms F r M).bind fun ds M1 => (f ds M1).noX
theorem tCB_of {K : Kx} {F : FT} {f : List D → Mem → Res D} {ms : MA} {s : L2.St} {H : Hp} {Q : VK} (q : rdE K F (mBl f ms) s H Q) : tCB (rC K.b f) (rdA K F ms) s H Q := by
  obtain ⟨mu, M, r, mr, sr, sat⟩ := q
  refine ⟨mu, M, r, mr, sr, sat.bind.imp fun ds M1 W1 l1 m1 s1 vs dvs => ?_⟩
  exact ⟨W1.mu, M1, ds, m1, dvs, s1.noX⟩
theorem ok_blt {x : Str} {id : String} {p pos : Pos} {e : Expr} {es : List Expr} {f : List D → Mem → Res D} {ms : MA} (hc : ∀ n X wx, CxOk T n C X wx → CallR X (.builtin id) (rC (kb X) f)) (hx : x ∈ T.blt) (hg : C.sc.names.lookup x = some .globalImplicit) (hv : bootBuiltins x = some (.builtin id)) (hn : x ≠ "__name__") (hdb : (x == ("__debug__" : Str)) = false)
    (hs : (e :: es).all noStar = true) (ha : OkA T C (e :: es) ms) : OkE T C (.Call (.Name x p) (e :: es) [] pos) (mBl f ms) := by
  intro n X wx h
  rw [List.all_cons, Bool.and_eq_true] at hs
  exact PE.of (pe_callB (hc n X wx h) (gl_of h hg) (h.blt x hx) hv (ha n X wx h) hn hdb (noStar_each hs.1) (noStars_any hs.2)) fun s H Q q => tCB_of q
theorem ok_bty {x : Str} {id : String} {p pos : Pos} {e : Expr} {es : List Expr} {f : List D → Mem → Res D} {ms : MA} (hc : ∀ n X wx, CxOk T n C X wx → CallR X (.type id) (rC (kb X) f)) (hx : x ∈ T.blt) (hg : C.sc.names.lookup x = some .globalImplicit) (hv : bootBuiltins x = some (.type id)) (hn : x ≠ "__name__") (hdb : (x == ("__debug__" : Str)) = false)
    (hs : (e :: es).all noStar = true) (ha : OkA T C (e :: es) ms) : OkE T C (.Call (.Name x p) (e :: es) [] pos) (mBl f ms) := by
  intro n X wx h
  rw [List.all_cons, Bool.and_eq_true] at hs
  exact PE.of (pe_callTy (hc n X wx h) (gl_of h hg) (h.blt x hx) hv (ha n X wx h) hn hdb (noStar_each hs.1) (noStars_any hs.2)) fun s H Q q => tCB_of q
theorem rels1 {K : Kb} {W : Wd} {d : D} {xs : List V} (h : DRels K W [d] xs) : ∃ v, xs = [v] ∧ DRel K W d v := by
  simp only [DRels] at h
  obtain ⟨v, r, rfl, h1, rfl⟩ := h
  exact ⟨v, rfl, h1⟩
theorem rels2 {K : Kb} {W : Wd} {d e : D} {xs : List V} (h : DRels K W [d, e] xs) : ∃ v u, xs = [v, u] ∧ DRel K W d v ∧ DRel K W e u := by
  simp only [DRels] at h
  obtain ⟨v, r, rfl, h1, u, r', rfl, h2, rfl⟩ := h
  exact ⟨v, u, rfl, h1, h2⟩
def lenD (ds : List D) (M : Mem) : Res D := match ds with
  | [.str s] => if s.length ≤ LIM then .ok (.int s.length) M else .bad
  | [d] => match seqD M d with
    | some l => .ok (.int l.length) M
    | none => .bad
  | _ => .bad
theorem cr_len {X : Cx} : CallR X (.builtin "len") (rC (kb X) lenD) := by
  intro pins s σ H xs us Q I r h
  obtain ⟨mu, M, ds, mr, dr, sat⟩ := h
  unfold lenD at sat
  split at sat
  · obtain ⟨hl, sat⟩ := sat_ite sat
    obtain ⟨v, rfl, dv⟩ := rels1 dr
    cases (show v = _ from dv)
    refine call_len_str pins s σ H _ us Q I r ⟨_, rfl, by rw [str_len, ← lim_eq]; exact hl, ?_⟩
    rw [str_len]
    exact sat.ok mr _ rfl
  · split at sat
    · rename_i l e
      obtain ⟨v, rfl, dv⟩ := rels1 dr
      obtain ⟨a, ys, rfl, q, dr'⟩ := seqD_at mr e dv
      refine call_len_seq pins s σ H _ us Q I r ⟨a, ys, rfl, q, ?_⟩
      rw [← dr'.length]
      exact sat.ok mr _ rfl
    · exact sat.elim
  · exact sat.elim
def toIntD (ds : List D) (M : Mem) : Res D := match ds with
  | [.int i] => .ok (.int i) M
  | [.bl b] => .ok (.int (if b then 1 else 0)) M
  | _ => .bad
theorem cr_int {X : Cx} : CallR X (.type "int") (rC (kb X) toIntD) := by
  intro pins s σ H xs us Q I r h
  obtain ⟨mu, M, ds, mr, dr, sat⟩ := h
  unfold toIntD at sat
  split at sat
  · obtain ⟨v, rfl, dv⟩ := rels1 dr
    cases (show v = _ from dv)
    exact call_int1 pins s σ H _ us Q I r (.inl ⟨_, rfl, sat.ok mr _ rfl⟩)
  · obtain ⟨v, rfl, dv⟩ := rels1 dr
    cases (show v = _ from dv)
    exact call_int1 pins s σ H _ us Q I r (.inr ⟨_, rfl, sat.ok mr _ rfl⟩)
  · exact sat.elim
def max2D (ds : List D) (M : Mem) : Res D := match ds with
  | [.int i, .int j] => .ok (.int (if j > i then j else i)) M
  | _ => .bad
def min2D (ds : List D) (M : Mem) : Res D := match ds with
  | [.int i, .int j] => .ok (.int (if j < i then j else i)) M
  | _ => .bad
theorem cr_max2 {X : Cx} (hc : X.calm = true) : CallR X (.builtin "max") (rC (kb X) max2D) := by
  intro pins s σ H xs us Q I r h
  obtain ⟨mu, M, ds, mr, dr, sat⟩ := h
  unfold max2D at sat
  split at sat
  · obtain ⟨v, u, rfl, dv, du⟩ := rels2 dr
    cases (show v = _ from dv); cases (show u = _ from du)
    exact call_max2 hc pins s σ H _ us Q I r ⟨_, _, rfl, sat.ok mr _ rfl⟩
  · exact sat.elim
theorem cr_min2 {X : Cx} (hc : X.calm = true) : CallR X (.builtin "min") (rC (kb X) min2D) := by
  intro pins s σ H xs us Q I r h
  obtain ⟨mu, M, ds, mr, dr, sat⟩ := h
  unfold min2D at sat
  split at sat
  · obtain ⟨v, u, rfl, dv, du⟩ := rels2 dr
    cases (show v = _ from dv); cases (show u = _ from du)
    exact call_min2 hc pins s σ H _ us Q I r ⟨_, _, rfl, sat.ok mr _ rfl⟩
  · exact sat.elim
def toTupD (ds : List D) (M : Mem) : Res D := match ds with
  | [.tup l] => .ok (.tup l) M
  | [d] => match lstD M d with
    | some l => .ok (.tup l) M
    | none => .bad
  | _ => .bad
theorem cr_tuple {X : Cx} : CallR X (.type "tuple") (rC (kb X) toTupD) := by
  intro pins s σ H xs us Q I r h
  obtain ⟨mu, M, ds, mr, dr, sat⟩ := h
  unfold toTupD at sat
  split at sat
  · obtain ⟨v, rfl, dv⟩ := rels1 dr
    have dv' := dv
    simp only [DRel] at dv'
    obtain ⟨a, ys, rfl, t, _⟩ := dv'
    exact call_tuple_of pins s σ H _ us Q I r ⟨a, ys, rfl, .inr ⟨t.sq, sat.ok mr _ dv⟩⟩
  · split at sat
    · rename_i l e
      obtain ⟨v, rfl, dv⟩ := rels1 dr
      obtain ⟨a, ys, rfl, q, dr'⟩ := lstD_at mr e dv
      exact call_tuple_of pins s σ H _ us Q I r ⟨a, ys, rfl, .inl ⟨q, fun p hp => new_tup mr dr' sat hp⟩⟩
    · exact sat.elim
  · exact sat.elim
def toLstD (mt : Bool) (ds : List D) (M : Mem) : Res D := match ds with
  | [d] => match seqD M d with
    | some l => if mt then newO l M else .ok (.lst l) M
    | none => .bad
  | _ => .bad
theorem cr_list {X : Cx} {mt : Bool} : CallR X (.type "list") (rC (kb X) (toLstD mt)) := by
  intro pins s σ H xs us Q I r h
  obtain ⟨mu, M, ds, mr, dr, sat⟩ := h
  unfold toLstD at sat
  split at sat
  · split at sat
    · rename_i l e
      obtain ⟨v, rfl, dv⟩ := rels1 dr
      obtain ⟨a, ys, rfl, q, dr'⟩ := seqD_at mr e dv
      refine call_list_of pins s σ H _ us Q I r ⟨a, ys, rfl, q, fun p hp => ?_⟩
      cases mt with
      | true => exact new_obj mr dr' sat hp
      | false => exact new_lst mr dr' sat hp
    · exact sat.elim
  · exact sat.elim

/-! ### isinstance -/
inductive Ty where
  | int | bool | str | tuple | list | none | dict
  deriving DecidableEq
def Ty.nm : Ty → String
  | .int => "int" | .bool => "bool" | .str => "str" | .tuple => "tuple" | .list => "list" | .none => "NoneType" | .dict => "dict"
def D.ty : D → Ty
  | .non => .none | .bl _ => .bool | .int _ => .int | .str _ => .str | .tup _ => .tuple | .lst _ => .list | .obj _ => .list | .exn _ _ _ => .dict | .ins _ _ _ => .dict
/-- neither an exception nor an instance -/
def D.isPl : D → Bool
  | .exn _ _ _ => false
  | .ins _ _ _ => false
  | _ => true
def isiB : Ty → Ty → Bool
  | .bool, .int => true
  | a, b => decide (a = b)
theorem kit_isi (a b : Ty) : kitB a.nm b.nm = some (isiB a b) := by
  cases a <;> cases b <;> decide +kernel
theorem tyx_of {K : Kb} {W : Wd} {M : Mem} {d : D} {v : V} (m : MRel K W M) (h : DRel K W d v) (hb : ∀ i, d = .obj i → ∃ l, M[i]? = some (.lst l)) (hne : D.isPl d = true) : TyX K.K W.H v (.type d.ty.nm) := by
  cases d with
  | non => cases (show v = _ from h); exact .base .non
  | bl b => cases (show v = _ from h); exact .base (.bl b)
  | int i => cases (show v = _ from h); exact .base (.int i)
  | str s => cases (show v = _ from h); exact .base (.str _)
  | tup l =>
    simp only [DRel] at h
    obtain ⟨a, xs, rfl, t, _⟩ := h
    rcases t with ⟨t | ⟨o, t⟩, _⟩ | ⟨o, its, n, hk, hc, _⟩
    · exact .base (.tup t)
    · exact .fTuple t
    · exact .kTuple hk hc
  | lst l =>
    simp only [DRel] at h
    obtain ⟨a, xs, rfl, t, _⟩ := h
    rcases t with ⟨t | ⟨o, t⟩, _⟩ | ⟨o, its, n, hk, hc, _⟩
    · exact .base (.lst t)
    · exact .base (.frz t)
    · exact .kList hk hc
  | obj i =>
    obtain ⟨l, hi⟩ := hb i rfl
    simp only [DRel] at h
    obtain ⟨a, rfl, q⟩ := h
    obtain ⟨xs, e3, _⟩ := m.obj i a _ q hi
    exact .base (.lst e3)
  | exn c ns ds => cases hne
  | ins c ns ds => cases hne
def mIsi (t : Ty) (m : ME) : ME := fun F r M => (m F r M).bind fun d M1 => match d with
  | .obj i => match M1[i]? with
    | some (.lst _) => .ok (.bl (isiB .list t)) M1
    | _ => .bad
  | .exn _ _ _ => .bad
  | .ins _ _ _ => .bad
  | d => .ok (.bl (isiB d.ty t)) M1
theorem ok_isi {t : Ty} {x y : Str} {p p2 pos : Pos} {e : Expr} {m : ME} (hx : x ∈ T.blt) (hx' : x = "isinstance") (hg : C.sc.names.lookup x = some .globalImplicit) (hy : y ∈ T.blt) (hyn : y = (t.nm : Str)) (hb : bootBuiltins y = some (.type t.nm)) (hgy : C.sc.names.lookup y = some .globalImplicit)
    (hn : y ≠ "__name__") (hdb : (y == ("__debug__" : Str)) = false) (hs : noStar e = true) (he : OkE T C e m) : OkE T C (.Call (.Name x p) [e, .Name y p2] [] pos) (mIsi t m) := by
  intro n X wx h
  subst hx'
  refine PE.of (pe_callB call_isi (gl_of h hg) (h.blt _ hx) boot_isinstance (pa_cons (he n X wx h) (pa_cons (pe_bltn (v := .ty t.nm) (gl_of h hgy) (h.blt _ hy) hb rfl hn hdb) pa_nil (by rfl)) (noStar_each hs)) (by decide) (by decide) (noStar_each hs) (by rfl)) fun s H Q q => ?_
  obtain ⟨mu, M, r, mr, sr, sat⟩ := q
  refine ⟨mu, M, r, mr, sr, sat.bind.imp fun d M1 W1 l1 m1 s1 v dv => ?_⟩
  show rIsi X.K [v, .ty t.nm] W1.H Q
  have key : (∀ i, d = .obj i → ∃ l, M1[i]? = some (.lst l)) ∧ D.isPl d = true ∧ Sat ((kx X wx).at s) W1 (.ok (.bl (isiB d.ty t)) M1) (PV (kb X) Q) := by
    cases d with
    | obj i =>
      cases e : M1[i]? with
      | none => simp only [e] at s1; exact s1.elim
      | some o =>
        cases o with
        | lst l => simp only [e] at s1; exact ⟨fun j q => by cases q; exact ⟨l, e⟩, rfl, s1⟩
        | dct _ l => simp only [e] at s1; exact s1.elim
        | dks _ l => simp only [e] at s1; exact s1.elim
        | ins _ l => simp only [e] at s1; exact s1.elim
    | exn c ns ds => exact s1.elim
    | ins c ns ds => exact s1.elim
    | _ => exact ⟨fun j e => (nomatch e), rfl, s1⟩
  exact ⟨v, .ty t.nm, .type d.ty.nm, .type t.nm, isiB d.ty t, rfl, by constructor, tyx_of m1 dv key.1 key.2.1, kit_ty (kit_isi _ _), key.2.2.ok m1 _ rfl⟩
end RI

set_option maxHeartbeats 4000000
namespace RI
open PySem PySem.Spec PyProof.Rows L2
variable {T : Tb} {C : CC}

/-! ### statements -/
def mSkip : MS := fun _ r M => .ok (.next r) M
def mSeq (a b : MS) : MS := fun F r M => (a F r M).bind fun f M1 => match f with
  | .next r1 => b F r1 M1
  | f => .ok f M1
theorem ok_snil : OkSs T C [] mSkip := by
  intro n X wx h
  refine PSs.of pss_nil fun Dn s H q => ?_
  obtain ⟨mu, M, r, mr, sr, sat⟩ := q
  exact sat.ok mr s sr
theorem ok_pass {pos} : OkS T C (.Pass pos) mSkip := by
  intro n X wx h
  refine PS.of ps_pass fun Dn s H q => ?_
  obtain ⟨mu, M, r, mr, sr, sat⟩ := q
  exact sat.ok mr s sr
theorem seq_of {K : Kx} {F : FT} {a b : MS} {Dn : Ends} {s : L2.St} {H : Hp} (q : rdS K F (mSeq a b) Dn s H) : tSeq (rdS K F a) (rdS K F b) Dn s H := by
  obtain ⟨mu, M, r, mr, sr, sat⟩ := q
  refine ⟨mu, M, r, mr, sr, sat.bind.imp fun f M1 W1 l1 m1 s1 => ?_⟩
  cases f with
  | next r1 => exact fun s' sr' => ⟨W1.mu, M1, r1, m1, sr', s1⟩
  | ret d => exact Sat.ok (show Sat _ _ (Res.ok (Fl.ret d) M1) _ from s1) m1
  | brk d => exact Sat.ok (show Sat _ _ (Res.ok (Fl.brk d) M1) _ from s1) m1
  | cont d => exact Sat.ok (show Sat _ _ (Res.ok (Fl.cont d) M1) _ from s1) m1
  | rse x d => exact Sat.ok (show Sat _ _ (Res.ok (Fl.rse x d) M1) _ from s1) m1
theorem ok_scons {st : Stmt} {rest : List Stmt} {a b : MS} (h1 : OkS T C st a) (h2 : OkSs T C rest b) : OkSs T C (st :: rest) (mSeq a b) := fun n X wx h => PSs.of (pss_cons (h1 n X wx h) (h2 n X wx h)) fun _ _ _ q => seq_of q
theorem ok_sone {st : Stmt} {a : MS} (h1 : OkS T C st a) : OkSs T C [st] a := fun n X wx h => pss_one (h1 n X wx h)
def mBreak : MS := fun _ r M => .ok (.brk r) M
def mCont : MS := fun _ r M => .ok (.cont r) M
theorem ok_break {pos} : OkS T C (.Break pos) mBreak := by
  intro n X wx h
  refine PS.of ps_break fun Dn s H q => ?_
  obtain ⟨mu, M, r, mr, sr, sat⟩ := q
  exact sat.ok mr s sr
theorem ok_cont {pos} : OkS T C (.Continue pos) mCont := by
  intro n X wx h
  refine PS.of ps_continue fun Dn s H q => ?_
  obtain ⟨mu, M, r, mr, sr, sat⟩ := q
  exact sat.ok mr s sr
def mNever : MS := fun _ _ _ => .bad
theorem ok_never {st : Stmt} : OkS T C st mNever := by
  intro n X wx h
  refine PS.of ps_never fun Dn s H q => ?_
  obtain ⟨mu, M, r, mr, sr, sat⟩ := q
  exact sat
def mRet (m : ME) : MS := fun F r M => (m F r M).toS r fun d M1 => .ok (.ret d) M1
theorem ok_ret {e : Expr} {pos} {m : ME} (h : OkE T C e m) : OkS T C (.Return (some e) pos) (mRet m) := by
  intro n X wx q
  refine PS.of (ps_ret (h n X wx q)) fun Dn s H q => ?_
  obtain ⟨mu, M, r, mr, sr, sat⟩ := q
  exact ⟨mu, M, r, mr, sr, (Sat.toS sat sr).imp fun d M1 W1 l1 m1 s1 v dv => s1.ok m1 v dv⟩
def mRetN : MS := fun _ _ M => .ok (.ret .non) M
theorem ok_retN {pos} : OkS T C (.Return none pos) mRetN := by
  intro n X wx q
  refine PS.of ps_retN fun Dn s H q => ?_
  obtain ⟨mu, M, r, mr, sr, sat⟩ := q
  exact sat.ok mr _ rfl
def mDrop (m : ME) : MS := fun F r M => (m F r M).toS r fun _ M1 => .ok (.next r) M1
def noComp : Expr → Bool
  | .ListComp .. => false
  | .SetComp .. => false
  | .DictComp .. => false
  | _ => true
theorem noComp_sw {e : Expr} {t : Option Expr} {l : Nat} {env : Env} (h : noComp e = true) : swapsWith e t l env = pure false := by
  cases e <;> first | rfl | cases h
theorem ok_expr {e : Expr} {pos} {m : ME} (hn : noComp e = true) (h : OkE T C e m) : OkS T C (.Expr e pos) (mDrop m) := by
  intro n X wx q
  refine PS.of (ps_expr (h n X wx q) (noComp_sw hn)) fun Dn s H q => ?_
  obtain ⟨mu, M, r, mr, sr, sat⟩ := q
  exact ⟨mu, M, r, mr, sr, (Sat.toS sat sr).imp fun d M1 W1 l1 m1 s1 v dv => s1.ok m1 s (sr.le l1)⟩
def mIfS (c : MT) (a b : MS) : MS := fun F r M => (c F r M).toS r fun k M1 => if k then a F r M1 else b F r M1
theorem ok_ifS {c : Expr} {p q : List Stmt} {pos} {mc : MT} {a b : MS} (hc : OkT T C c mc) (ha : OkSs T C p a) (hb : OkSs T C q b) : OkS T C (.If c p q pos) (mIfS mc a b) := by
  intro n X wx q
  refine PS.of (ps_if (hc n X wx q) (ha n X wx q) (hb n X wx q)) fun Dn s H q => ?_
  obtain ⟨mu, M, r, mr, sr, sat⟩ := q
  refine ⟨mu, M, r, mr, sr, (Sat.toS sat sr).imp fun k M1 W1 l1 m1 s1 => ?_⟩
  cases k with
  | true => exact iteT ⟨W1.mu, M1, r, m1, sr.le l1, s1⟩
  | false => exact iteF ⟨W1.mu, M1, r, m1, sr.le l1, s1⟩

/-! ### targets -/
def gN (i : Nat) : MG := fun _ d r M => .ok (r.set i (some d)) M
theorem loc_of {n : Nat} {X : Cx} {wx : Ex → L2.St → Wd → Prop} (h : CxOk T n C X wx) {x : Str} (hl : C.sc.names.lookup x = some .local ∨ (C.sc.names.lookup x = some .cell ∧ C.fn x = true)) : Loc X.env.scope x ∧ (X.fn x = true ∨ X.env.scope.names.lookup x = some .local) := by
  rw [h.sc, h.fn]
  rcases hl with hl | ⟨hl, hf⟩
  · exact ⟨.inl hl, .inr hl⟩
  · exact ⟨.inr hl, .inl hf⟩
theorem ok_gname {i : Nat} {x : Str} {pos : Pos} (hi : C.N[i]? = some x) (hl : C.sc.names.lookup x = some .local ∨ (C.sc.names.lookup x = some .cell ∧ C.fn x = true)) : OkG T C (.Name x pos) (gN i) := by
  intro n X wx h
  obtain ⟨h1, h2⟩ := loc_of h hl
  refine PG.of (pg_name h.nd (by rw [h.N]; exact hi) h1 h2) fun v s H Q q => ?_
  obtain ⟨mu, M, r, mr, sr, d, dv, sat⟩ := q
  exact sat.ok mr _ (sr.set dv i)
def gsNil : MGs := fun _ ds r M => match ds with
  | [] => .ok r M
  | _ => .bad
def gsCons (g : MG) (gs : MGs) : MGs := fun F ds r M => match ds with
  | d :: rest => (g F d r M).bind fun r1 M1 => gs F rest r1 M1
  | [] => .bad
theorem ok_gsnil : OkGs T C [] gsNil := by
  intro n X wx h
  refine PGs.of pgs_nil fun v s H Q q => ?_
  obtain ⟨mu, M, r, mr, sr, ds, dv, sat⟩ := q
  cases ds with
  | nil => exact ⟨dv, sat.ok mr s sr⟩
  | cons _ _ => exact sat.elim
def noStarT : Expr → Bool
  | .Starred .. => false
  | _ => true
theorem noStarT_each {e : Expr} {es : List Expr} {env : Env} (h : noStarT e = true) : assignEach (e :: es) env = (false, assign e env) :: assignEach es env := by
  cases e <;> first | rfl | cases h
theorem ok_gscons {e : Expr} {es : List Expr} {g : MG} {gs : MGs} (hs : noStarT e = true) (h1 : OkG T C e g) (h2 : OkGs T C es gs) : OkGs T C (e :: es) (gsCons g gs) := by
  intro n X wx h
  refine PGs.of (pgs_cons (h1 n X wx h) (h2 n X wx h) (by rw [noStarT_each hs]; rfl)) fun v s H Q q => ?_
  obtain ⟨mu, M, r, mr, sr, ds, dv, sat⟩ := q
  cases ds with
  | nil => exact sat.elim
  | cons d rest =>
    simp only [DRels] at dv
    obtain ⟨v1, vr, rfl, d1, d2⟩ := dv
    refine ⟨v1, vr, rfl, mu, M, r, mr, sr, d, d1, sat.bind.imp fun r1 M1 W1 l1 m1 s1 s' sr' => ?_⟩
    exact ⟨W1.mu, M1, r1, m1, sr', rest, DRels.le l1 rest vr d2, s1⟩
def gTp (n : Nat) (gs : MGs) : MG := fun F d r M => match seqD M d with
  | some l => if l.length = n then gs F l r M else .bad
  | none => .bad
theorem noStarsT {env : Env} : ∀ {es : List Expr}, es.all noStarT = true → (assignEach es env).length = es.length ∧ (assignEach es env).findIdx? (·.1) = none
  | [], _ => ⟨rfl, rfl⟩
  | e :: es, h => by
    rw [List.all_cons, Bool.and_eq_true] at h
    rw [noStarT_each h.1]
    obtain ⟨h1, h2⟩ := noStarsT (env := env) h.2
    refine ⟨by simp [h1], ?_⟩
    rw [List.findIdx?_cons]
    simp [h2]
theorem PG.or {X : Cx} {e : Expr} {t t' : TG} (h : PG X e t) (h' : PG X e t') : PG X e (fun v s H Q => t v s H Q ∨ t' v s H Q) := ⟨fun pins s σ H v u Q I r q => by
  rcases q with q | q
  · exact h.run pins s σ H v u Q I r q
  · exact h'.run pins s σ H v u Q I r q⟩
theorem ok_gtup (hq : C.calm = true) {es : List Expr} {k pos} {gs : MGs} {m : Nat} (hs : es.all noStarT = true) (hm : es.length = m) (h : OkGs T C es gs) : OkG T C (.Tuple es k pos) (gTp m gs) := by
  intro n X wx q
  obtain ⟨a1, a2⟩ := noStarsT (env := X.env) hs
  refine PG.of (PG.or (pg_tup (q.calm.trans hq) (h n X wx q) (a1.trans hm) a2) (pg_unl (q.calm.trans hq) (h n X wx q) (a1.trans hm) a2)) fun v s H Q w => ?_
  obtain ⟨mu, M, r, mr, sr, d, dv, sat⟩ := w
  unfold gTp at sat
  split at sat
  · rename_i l e
    obtain ⟨hl, sat⟩ := sat_ite sat
    obtain ⟨a, xs, rfl, hq, dr⟩ := seqD_at mr e dv
    rcases hq with hq | hq
    · exact .inr ⟨a, xs, rfl, hq, by rw [← dr.length]; exact hl, mu, M, r, mr, sr, l, dr, sat⟩
    · exact .inl ⟨a, xs, rfl, hq, by rw [← dr.length]; exact hl, mu, M, r, mr, sr, l, dr, sat⟩
  · exact sat.elim
/-- o[i] = v -/
def setS (o i v : D) (M : Mem) : Res Unit := match o, i with
  | .obj j, .int k => match M[j]? with
    | some (.lst l) => match ixN l.length k with
      | some p => if D.bel j v then .ok () (M.set j (.lst (l.set p v))) else .bad
      | none => .bad
    | _ => .bad
  | _, _ => .bad
def setK (o i v : D) (l : List (D × D)) (M : Mem) : Res Unit := match o with
  | .obj j => if (D.isKey i && D.bel j v && Nat.ble l.length 16777215) = true then .ok () (M.set j (.dct false (dsetD i v l))) else .bad
  | _ => .bad
/-- a dict that may be written -/
def wctD (M : Mem) : D → Option (List (D × D))
  | .obj i => match M[i]? with
    | some (.dct false l) => some l
    | _ => none
  | _ => none
def wksD (M : Mem) : D → Option (List (D × D))
  | .obj i => match M[i]? with
    | some (.dks false l) => some l
    | _ => none
  | _ => none
theorem wctD_obj {M : Mem} {d : D} {l : List (D × D)} (h : wctD M d = some l) : ∃ j, d = .obj j ∧ M[j]? = some (.dct false l) := by
  cases d with
  | obj j =>
    simp only [wctD] at h
    split at h
    · rename_i l' e; exact ⟨j, rfl, by rw [e]; cases h; rfl⟩
    · cases h
  | _ => simp [wctD] at h
theorem wksD_obj {M : Mem} {d : D} {l : List (D × D)} (h : wksD M d = some l) : ∃ j, d = .obj j ∧ M[j]? = some (.dks false l) := by
  cases d with
  | obj j =>
    simp only [wksD] at h
    split at h
    · rename_i l' e; exact ⟨j, rfl, by rw [e]; cases h; rfl⟩
    · cases h
  | _ => simp [wksD] at h
def setKs (o i v : D) (l : List (D × D)) (M : Mem) : Res Unit := match o, D.key1 i with
  | .obj j, some k => if (D.bel j v && Nat.ble l.length 16777215) = true then .ok () (M.set j (.dks false (dkset k i v l))) else .bad
  | _, _ => .bad
def setD (o i v : D) (M : Mem) : Res Unit := match wctD M o with
  | some l => setK o i v l M
  | none => match wksD M o with
    | some l => setKs o i v l M
    | none => setS o i v M
theorem storedH_len (xs : List (NestedKey × Addr × Value)) (k : NestedKey) (a : Addr) (v : Value) : (storedH xs k a v).length ≤ xs.length + 1 := by
  unfold storedH
  split <;> simp
theorem paired_len {α β : Type} {F : α → β → Prop} {l : List α} {m : List β} (h : Paired F l m) : l.length = m.length := by
  induction h with
  | nil => rfl
  | cons _ _ ih => simp [ih]
theorem bels_set {n : Nat} {d : D} (hd : D.bel n d = true) : ∀ {l : List D} (i : Nat), D.bels n l = true → D.bels n (l.set i d) = true
  | [], _, h => h
  | e :: es, 0, h => by
    simp only [List.set_cons_zero, D.bels, Bool.and_eq_true] at h ⊢
    exact ⟨hd, h.2⟩
  | e :: es, i + 1, h => by
    simp only [List.set_cons_succ, D.bels, Bool.and_eq_true] at h ⊢
    exact ⟨h.1, bels_set hd i h.2⟩
theorem bels_app {n : Nat} : ∀ {l l' : List D}, D.bels n l = true → D.bels n l' = true → D.bels n (l ++ l') = true
  | [], _, _, h => h
  | e :: es, l', h, h' => by
    simp only [List.cons_append, D.bels, Bool.and_eq_true] at h ⊢
    exact ⟨h.1, bels_app h.2 h'⟩
def rSetD (K : Kb) : V → V → V → Hp → (Hp → Prop) → Prop := fun o i v H Q => ∃ mu M d1 d2 d3, MRel K ⟨H, mu⟩ M ∧ DRel K ⟨H, mu⟩ d1 o ∧ DRel K ⟨H, mu⟩ d2 i ∧ DRel K ⟨H, mu⟩ d3 v ∧ Sat K.no ⟨H, mu⟩ (setD d1 d2 d3 M) (fun _ _ W => Q W.H)
theorem set_d {X : Cx} (hu : X.A.units + 65 < cLine) : PSet X (rSetD (kb X)) := by
  intro pins s σ H o i v ov iv u Q I ro ri rv h
  obtain ⟨mu, M, d1, d2, d3, mr, h1, h2, h3, sat⟩ := h
  unfold setD at sat
  split at sat
  · rename_i l e
    obtain ⟨j, rfl, ej⟩ := wctD_obj e
    obtain ⟨hk, sat⟩ := sat_ite sat
    simp only [Bool.and_eq_true] at hk
    obtain ⟨⟨hk, hb⟩, hn⟩ := hk
    have hn := Nat.le_of_ble_eq_true hn
    simp only [DRel] at h1
    obtain ⟨a, rfl, ha⟩ := h1
    cases ro
    obtain ⟨ka, rfl, rfl, hki⟩ := isKey_is I hk h2 ri
    obtain ⟨xs, g1, hd, g3, g4, g5⟩ := dct_at I mr ha ej
    have hl := paired_len g5
    obtain ⟨gk, g1⟩ := (show _ ∧ H a = _ from g1)
    refine wpAny_setItem_heap (room_k hu) hki hd (fun h' d' sb => ?_) g3
    have nd := d'.nodup
    have hz : (storedH xs (D.toK d2) ka u).length ≤ sizeLine := by
      have := storedH_len xs (D.toK d2) ka u
      rw [sizeLine_eq]; omega
    obtain ⟨l1, m1⟩ := mr.wroteO ha gk (DctO X.prog X.w a (storedH xs (D.toK d2) ka u)) (.dct false (dsetD d2 d3 l)) fun W' lk eW ek => ⟨_, ⟨ek, eW⟩, nd, hz, g4, Paired.mapP (dset_rel hk h2 h3 rv hb g5) fun _ _ q => q.lk lk⟩
    exact ⟨upd H a (DctO X.prog X.w a (storedH xs (D.toK d2) ka u)), d_write I (by rw [g1]; exact True.intro) sb (let ⟨q, _, _, hq, _⟩ := d'; ⟨q, hq⟩) (dct_new d'), sat _ l1 m1⟩
  split at sat
  · rename_i l e
    obtain ⟨j, rfl, ej⟩ := wksD_obj e
    unfold setKs at sat
    split at sat
    · rename_i _ _ j' k ed ek
      cases ed
      obtain ⟨hk, sat⟩ := sat_ite sat
      simp only [Bool.and_eq_true] at hk
      obtain ⟨hb, hn⟩ := hk
      have hn := Nat.le_of_ble_eq_true hn
      simp only [DRel] at h1
      obtain ⟨a, rfl, ha⟩ := h1
      cases ro
      obtain ⟨kvs, g1, g2⟩ := dks_at mr ha ej
      obtain ⟨gk, g1⟩ := (show _ ∧ _ from g1)
      have hl := paired_len g2
      obtain ⟨l1, m1⟩ := mr.wroteO ha gk (.dK (putK kvs k v)) (.dks false (dkset k d2 d3 l)) fun W' lk eW ek' => ⟨_, ⟨ek', eW⟩, Paired.mapP (dkset_rel ek h3 hb g2) fun _ _ q => q.lk lk⟩
      exact d_setItem (by omega) I (.inl ⟨kvs, k, g1, key1_kV ek h2, by rw [sizeLine_eq]; omega, rfl⟩) ri rv fun s' I' => ⟨_, I', sat _ l1 m1⟩
    · exact sat.elim
  unfold setS at sat
  split at sat
  · rename_i _ _ j k _ _
    split at sat
    · rename_i l e
      split at sat
      · rename_i p ep
        obtain ⟨b, sat⟩ := sat_ite sat
        simp only [DRel] at h1
        obtain ⟨a, rfl, ha⟩ := h1
        cases (show i = _ from h2)
        obtain ⟨xs, eh, dr, bl, nk⟩ := mr.obj j a _ ha e
        refine set_list pins s σ H _ _ v ov iv u Q I ro ri rv ⟨a, xs, k, p, rfl, rfl, eh, by rw [← dr.length]; exact ep, ?_⟩
        obtain ⟨l1, m1⟩ := mr.wrote ha nk (DRels.set h3 p dr) (bels_set b p bl)
        exact sat _ l1 m1
      · exact sat.elim
    · exact sat.elim
  · exact sat.elim
def gSb (mo mi : ME) : MG := fun F d r M => (mo F r M).bind fun o M1 => (mi F r M1).bind fun i M2 => (setD o i d M2).bind fun _ M3 => .ok r M3
theorem noSlice_as {i o : Expr} {pos : Pos} {env : Env} (h : noSlice i = true) : ∀ v, assign (.Subscript o i pos) env v = (do
      let ov ← holding [v] (eval o env)
      let iv ← holding [v, ov] (eval i env)
      standAt pos
      holding [v, ov, iv] (setItem ov iv v)
      release [v, ov, iv] []) := by
  intro v
  cases i <;> first | rfl | cases h
theorem ok_gsub {o i : Expr} {pos : Pos} {mo mi : ME} (hs : noSlice i = true) (ho : OkE T C o mo) (hi : OkE T C i mi) : OkG T C (.Subscript o i pos) (gSb mo mi) := by
  intro n X wx h
  refine PG.of (pg_sub (ho n X wx h) (hi n X wx h) (set_d (by have := h.un; omega)) (noSlice_as hs)) fun v s H Q q => ?_
  obtain ⟨mu, M, r, mr, sr, d, dv, sat⟩ := q
  refine ⟨mu, M, r, mr, sr, (Sat.up (K := (kx X wx).at s) sat.bind).imp fun x M1 W1 l1 m1 s1 xv dx => ?_⟩
  refine ⟨W1.mu, M1, r, m1, sr.le l1, (Sat.up (K := (kx X wx).at s) s1.bind).imp fun y M2 W2 l2 m2 s2 yv dy => ?_⟩
  refine ⟨W2.mu, M2, x, y, d, m2, DRel.le l2 x xv dx, dy, DRel.le (l1.trans l2) d v dv, s2.bind.imp fun _ M3 W3 l3 m3 s3 => ?_⟩
  exact s3.ok m3 s (sr.le ((l1.trans l2).trans l3))
/-! ### assignments -/
def mAsg (m : ME) (g : MG) : MS := fun F r M => (m F r M).toS r fun d M1 => (g F d r M1).bind fun r1 M2 => .ok (.next r1) M2
theorem asg_of {K : Kx} {F : FT} {m : ME} {g : MG} {Dn : Ends} {s : L2.St} {H : Hp} (q : rdS K F (mAsg m g) Dn s H) : tAsg (rdE K F m) (rdG K F g) Dn s H := by
  obtain ⟨mu, M, r, mr, sr, sat⟩ := q
  refine ⟨mu, M, r, mr, sr, (Sat.toS sat sr).imp fun d M1 W1 l1 m1 s1 v dv => ?_⟩
  exact ⟨W1.mu, M1, r, m1, sr.le l1, d, dv, s1.bind.imp fun r1 M2 W2 l2 m2 s2 s' sr' => s2.ok m2 s' sr'⟩
theorem ok_asg {tg e : Expr} {pos} {m : ME} {g : MG} (hn : noComp e = true) (hw : ∀ env : Env, env.scope = C.sc → swappedStores [tg] e env = pure none) (hs : noStarT tg = true) (he : OkE T C e m) (hg : OkG T C tg g) : OkS T C (.Assign [tg] e pos) (mAsg m g) := by
  intro n X wx h
  exact PS.of (ps_asg (he n X wx h) (hg n X wx h) (by show swapsWith e (some tg) _ _ = _; exact noComp_sw hn) (hw X.env h.sc) (by rw [noStarT_each hs]; rfl)) fun _ _ _ q => asg_of q
theorem ok_set {i : Nat} {x : Str} {e : Expr} {pos pos'} {m : ME} (hn : noComp e = true) (hi : C.N[i]? = some x) (hl : C.sc.names.lookup x = some .local ∨ (C.sc.names.lookup x = some .cell ∧ C.fn x = true)) (he : OkE T C e m) : OkS T C (.Assign [.Name x pos'] e pos) (mAsg m (gN i)) := by
  intro n X wx h
  obtain ⟨h1, h2⟩ := loc_of h hl
  refine PS.of (ps_set h.nd (by rw [h.N]; exact hi) h1 (he n X wx h) (noComp_sw hn) h2) fun Dn s H q => ?_
  obtain ⟨mu, M, r, mr, sr, sat⟩ := asg_of q
  refine ⟨mu, M, r, mr, sr, sat.imp fun d M1 W1 l1 m1 s1 v dv => ?_⟩
  obtain ⟨mu2, M2, r2, mr2, sr2, d2, dv2, sat2⟩ := s1 v dv
  exact sat2.ok mr2 _ (sr2.set dv2 i)
/-- a, b = x, y -/
def mPar (i j : Nat) (ms : MA) : MS := fun F r M => (ms F r M).toS r fun ds M1 => match ds with
  | [v, w] => .ok (.next ((r.set i (some v)).set j (some w))) M1
  | _ => .bad
theorem ok_par (hq : C.calm = true) {i j : Nat} {x y : Str} {a b : Expr} {ms : MA} {px py pt pos : Pos} {kt k2 pt2} (hi : C.N[i]? = some x) (hj : C.N[j]? = some y) (hij : i ≠ j)
    (hx : C.sc.names.lookup x = some .local) (hy : C.sc.names.lookup y = some .local) (ha : OkA T C [a, b] ms)
    (hw : ∀ env : Env, env.scope = C.sc → swappedStores [.Tuple [.Name x px, .Name y py] kt pt] (.Tuple [a, b] k2 pt2) env = pure (some [x, y])) :
    OkS T C (.Assign [.Tuple [.Name x px, .Name y py] kt pt] (.Tuple [a, b] k2 pt2) pos) (mPar i j ms) := by
  intro n X wx h
  refine PS.of (ps_par (h.calm.trans hq) h.nd (by rw [h.N]; exact hi) (by rw [h.N]; exact hj) hij (by rw [h.sc]; exact hx) (by rw [h.sc]; exact hy) (ha n X wx h) (hw X.env h.sc) (by rfl)) fun Dn s H q => ?_
  obtain ⟨mu, M, r, mr, sr, sat⟩ := q
  refine ⟨mu, M, r, mr, sr, (Sat.toS sat sr).imp fun ds M1 W1 l1 m1 s1 vs dvs => ?_⟩
  split at s1
  · obtain ⟨v, w, rfl, d1, d2⟩ := rels2 dvs
    exact ⟨v, w, rfl, s1.ok m1 _ (((sr.le l1).set d1 i).set d2 j)⟩
  · exact s1.elim
/-- x op= e, by the operator's function on data -/
def mAug (i : Nat) (f : D → D → Mem → Res D) (m : ME) : MS := fun F r M => match r[i]? with
  | some (some d) => (m F r M).toS r fun e M1 => (f d e M1).noX.bind fun z M2 => .ok (.next (r.set i (some z))) M2
  | _ => .bad
theorem ok_aug {i : Nat} {x : Str} {e : Expr} {op : Operator} {pos pos'} {f : D → D → Mem → Res D} {m : ME} (hi : C.N[i]? = some x) (hl : C.sc.names.lookup x = some .local ∨ (C.sc.names.lookup x = some .cell ∧ C.fn x = true)) (ho : ∀ n X wx, CxOk T n C X wx → OpR X (inplaceOp op) (rB (kb X) f)) (he : OkE T C e m) : OkS T C (.AugAssign (.Name x pos') op e pos) (mAug i f m) := by
  intro n X wx h
  obtain ⟨h1, h2⟩ := loc_of h hl
  refine PS.of (ps_aug (ti := rB (kb X) f) h.nd (by rw [h.N]; exact hi) h1 (he n X wx h) (ho n X wx h) h2) fun Dn s H q => ?_
  obtain ⟨mu, M, r, mr, sr, sat⟩ := q
  unfold mAug at sat
  split at sat
  · rename_i d e
    obtain ⟨v, ev, dv⟩ := sr.get i d e
    refine ⟨v, ev, mu, M, r, mr, sr, (Sat.toS sat sr).imp fun y M1 W1 l1 m1 s1 u du => ?_⟩
    refine ⟨W1.mu, M1, d, y, m1, DRel.le l1 d v dv, du, s1.bind.noX.imp fun z M2 W2 l2 m2 s2 zv dz => ?_⟩
    exact s2.ok m2 _ ((sr.le (l1.trans l2)).set dz i)
  · exact sat.elim
theorem or_iadd {X : Cx} : OpR X (inplaceOp .Add) (rB (kb X) (intD (fun _ _ => true) fun i j => .int (i + j))) := or_int0 iop_add fun _ _ _ _ => rfl
theorem or_isub {X : Cx} : OpR X (inplaceOp .Sub) (rB (kb X) (intD (fun _ _ => true) fun i j => .int (i - j))) := or_int0 iop_sub fun _ _ _ _ => rfl
/-! ### while -/
def whileN (c : MT) (b : MS) (F : FT) : Nat → EV → Mem → Res Fl
  | 0, _, _ => .bad
  | n + 1, r, M => (c F r M).toS r fun k M1 => if k then (b F r M1).bind fun f M2 => match f with
      | .next r1 => whileN c b F n r1 M2
      | .cont r1 => whileN c b F n r1 M2
      | .brk r1 => .ok (.next r1) M2
      | .ret d => .ok (.ret d) M2
      | .rse x r1 => .ok (.rse x r1) M2
    else .ok (.next r) M1
abbrev FUEL : Nat := 1000000000
def mWhl (c : MT) (b : MS) : MS := fun F r M => whileN c b F FUEL r M
theorem ok_while {c : Expr} {body : List Stmt} {pos} {mc : MT} {mb : MS} (hc : OkT T C c mc) (hb : OkSs T C body mb) : OkS T C (.While c body [] pos) (mWhl mc mb) := by
  intro n X wx h
  refine PS.of (ps_while h.pas (hc n X wx h) (hb n X wx h)) fun Dn s H q => ?_
  refine ⟨fun m s H => At (kb X) s H fun mu r M => Sat (kb X).no ⟨H, mu⟩ (whileN mc mb (callF T n) m r M) (PF (kx X wx) Dn), ⟨FUEL, q⟩, fun m s H q => ?_⟩
  obtain ⟨mu, M, r, mr, sr, sat⟩ := q
  cases m with
  | zero => exact sat.elim
  | succ m =>
    refine ⟨mu, M, r, mr, sr, (Sat.toS (K := kx X wx) (show Sat (kb X).no ⟨H, mu⟩ ((mc (callF T n) r M).toS r _) _ from sat) sr).imp fun k M1 W1 l1 m1 s1 => ?_⟩
    cases k with
    | false => exact iteF (Sat.ok (show Sat _ _ (Res.ok (Fl.next r) M1) _ from s1) m1 s (sr.le l1))
    | true =>
      refine iteT ⟨fun s H => At (kb X) s H fun mu r M => Sat (kb X).no ⟨H, mu⟩ (whileN mc mb (callF T n) m r M) (PF (kx X wx) Dn), fun s' H' q' => ⟨m, Nat.lt_succ_self m, q'⟩, W1.mu, M1, r, m1, sr.le l1, ?_⟩
      refine (Sat.bind (show Sat (kb X).no W1 ((mb (callF T n) r M1).bind _) _ from s1)).imp fun f M2 W2 l2 m2 s2 => ?_
      cases f with
      | next r1 => exact fun s' sr' => ⟨W2.mu, M2, r1, m2, sr', s2⟩
      | cont r1 => exact fun s' sr' => ⟨W2.mu, M2, r1, m2, sr', s2⟩
      | brk r1 => exact Sat.ok (show Sat _ _ (Res.ok (Fl.next r1) M2) _ from s2) m2
      | ret d => exact Sat.ok (show Sat _ _ (Res.ok (Fl.ret d) M2) _ from s2) m2
      | rse x r1 => exact Sat.ok (show Sat _ _ (Res.ok (Fl.rse x r1) M2) _ from s2) m2
end RI

set_option maxHeartbeats 4000000
namespace RI
open PySem PySem.Spec PyProof.Rows L2
variable {T : Tb} {C : CC}

/-! ### what is walked -/
/-- a list that may change: it must not while it is walked -/
abbrev Gd := Option (Nat × List D)
def Gd.ok (g : Gd) (M : Mem) : Bool := match g with
  | none => true
  | some (j, l) => match M[j]? with
    | some (.lst l') => D.beqs l l'
    | _ => false
@[simp] theorem gd_none (M : Mem) : Gd.ok none M = true := rfl
abbrev MI := FT → EV → Mem → Res (List D × Gd)
structure WalkOk (K : Kb) (W : Wd) (g : Gd) (ds : List D) (J : It) : Prop where
  go : ∀ i W' M, Lk W W' → MRel K W' M → Gd.ok g M = true → i < ds.length → J.go i W'.H
  stop : ∀ W' M, Lk W W' → MRel K W' M → Gd.ok g M = true → J.stop ds.length W'.H
  yld : ∀ i d W' M x H', ds[i]? = some d → Lk W W' → MRel K W' M → Gd.ok g M = true → J.yld i W'.H x H' → ∃ W'', W''.H = H' ∧ Le W' W'' ∧ MRel K W'' M ∧ DRel K W'' d x
def rdI (K : Kx) (F : FT) (m : MI) : TI := fun s H R => At K s H fun mu r M => Sat (K.at s) ⟨H, mu⟩ (m F r M) (fun p _ W => ∀ J, WalkOk K W p.2 p.1 J → R J W.H)
def OkI (T : Tb) (C : CC) (tg e : Expr) (m : MI) : Prop := ∀ n X wx, CxOk T n C X wx → PI X tg e (rdI (kx X wx) (callF T n) m)
theorem PI.of {X : Cx} {tg e : Expr} {t t' : TI} (h : PI X tg e t) (f : ∀ s H R, t' s H R → t s H R) : PI X tg e t' := ⟨fun pins s σ H R I q => h.run pins s σ H R I (f σ H R q)⟩
theorem PI.or {X : Cx} {tg e : Expr} {t t' : TI} (h : PI X tg e t) (h' : PI X tg e t') : PI X tg e (fun s H R => t s H R ∨ t' s H R) := ⟨fun pins s σ H R I q => by
  rcases q with q | q
  · exact h.run pins s σ H R I q
  · exact h'.run pins s σ H R I q⟩
theorem walk_at {K : Kb} {W : Wd} {ds : List D} {xs : List V} {J : It} {G : Hp → Prop} (w : Walk J xs.length G (YAt xs)) (hG : ∀ W', Lk W W' → G W'.H) (r : DRels K W ds xs) : WalkOk K W none ds J where
  go := fun i W' M l m _ hi => w.goes i _ (by rw [← r.length]; exact hi) (hG W' l)
  stop := fun W' M l m _ => by rw [r.length]; exact w.stops _ (hG W' l)
  yld := fun i d W' M x H' e l m _ y => by
    obtain ⟨v, ev, dv⟩ := r.get e
    have hi : i < xs.length := by
      by_cases q : i < xs.length
      · exact q
      · rw [List.getElem?_eq_none (by omega)] at ev; cases ev
    obtain ⟨e1, e2⟩ := w.yields i _ x H' hi (hG W' l) y
    rw [ev] at e2; cases e2
    exact ⟨W', e1.symm, Le.refl _, m, DRel.lk l d _ dv⟩
/-- a list that is never changed, or a tuple -/
def mSeqI (m : ME) : MI := fun F r M => (m F r M).bind fun d M1 => match d with
  | .tup l => .ok (l, none) M1
  | .lst l => .ok (l, none) M1
  | .obj j => match M1[j]? with
    | some (.lst l) => .ok (l, some (j, l)) M1
    | _ => .bad
  | _ => .bad
theorem gd_at {j : Nat} {l : List D} {M : Mem} (h : Gd.ok (some (j, l)) M = true) : M[j]? = some (.lst l) := by
  simp only [Gd.ok] at h
  split at h
  · rename_i l' e; rw [e, D.of_beqs _ _ h]
  · cases h
/-- a list that may change -/
theorem walk_obj {K : Kb} {W : Wd} {j : Nat} {a : Addr} {l : List D} (ha : W.mu.l[j]? = some a) : WalkOk K W (some (j, l)) l (Itl K.K a) := by
  have key : ∀ W' M, Lk W W' → MRel K W' M → Gd.ok (some (j, l)) M = true → ∃ xs, SqL K.K W'.H a xs ∧ DRels K W' l xs := by
    intro W' M lk m h
    have h1 := DRel.lk (K := K) lk (.obj j) (.ref a) (by simp only [DRel]; exact ⟨a, rfl, ha⟩)
    simp only [DRel] at h1
    obtain ⟨b, e, hb⟩ := h1
    cases e
    obtain ⟨xs, e1, e2, _⟩ := m.obj j a _ hb (gd_at h)
    exact ⟨xs, SqL.of e1, e2⟩
  refine ⟨fun i W' M lk m h hi => ?_, fun W' M lk m h => ?_, fun i d W' M x H' e lk m h y => ?_⟩
  · obtain ⟨xs, q, dr⟩ := key W' M lk m h
    obtain ⟨v, ev, _⟩ := dr.get (List.getElem?_eq_getElem hi)
    exact ⟨xs, v, q, ev⟩
  · obtain ⟨xs, q, dr⟩ := key W' M lk m h
    exact ⟨xs, q, Nat.le_of_eq dr.length.symm⟩
  · obtain ⟨xs, q, dr⟩ := key W' M lk m h
    obtain ⟨v, ev, dv⟩ := dr.get e
    have e2 := y.2 xs q
    rw [ev] at e2
    cases e2
    exact ⟨W', y.1.symm, Le.refl _, m, dv⟩
theorem ok_iseq {tg e : Expr} {m : ME} (h : OkE T C e m) : OkI T C tg e (mSeqI m) := by
  intro n X wx q
  refine PI.of (PI.or (pi_list (h n X wx q)) (pi_tup (h n X wx q))) fun s H R w => ?_
  obtain ⟨mu, M, r, mr, sr, sat⟩ := w
  unfold mSeqI at sat
  cases e : m (callF T n) r M with
  | bad => rw [e] at sat; exact sat.elim
  | exc x M1 =>
    rw [e] at sat
    refine .inl ⟨mu, M, r, mr, sr, ?_⟩
    show Sat _ _ (m (callF T n) r M) _
    rw [e]
    exact sat
  | ok d M1 =>
    rw [e] at sat
    simp only [Res.bind_ok] at sat
    cases d with
    | tup l =>
      refine .inr ⟨mu, M, r, mr, sr, ?_⟩
      show Sat _ _ (m (callF T n) r M) _
      rw [e]
      intro W1 l1 m1 v dv
      simp only [DRel] at dv
      obtain ⟨a, xs, rfl, t, dr⟩ := dv
      exact ⟨a, rfl, ⟨xs, t.sq⟩, sat W1 l1 m1 _ (walk_at walk_tup (fun W' l' => (t.lk l').sq) dr)⟩
    | lst l =>
      refine .inl ⟨mu, M, r, mr, sr, ?_⟩
      show Sat _ _ (m (callF T n) r M) _
      rw [e]
      intro W1 l1 m1 v dv
      simp only [DRel] at dv
      obtain ⟨a, xs, rfl, t, dr⟩ := dv
      exact ⟨a, rfl, ⟨xs, t.sq⟩, sat W1 l1 m1 _ (walk_at walk_list (fun W' l' => (t.lk l').sq) dr)⟩
    | obj j =>
      refine .inl ⟨mu, M, r, mr, sr, ?_⟩
      show Sat _ _ (m (callF T n) r M) _
      rw [e]
      intro W1 l1 m1 v dv
      cases ej : M1[j]? with
      | none => simp only [ej] at sat; exact sat.elim
      | some o =>
        cases o with
        | dct _ l => simp only [ej] at sat; exact sat.elim
        | dks _ l => simp only [ej] at sat; exact sat.elim
        | ins _ l => simp only [ej] at sat; exact sat.elim
        | lst l =>
          simp only [ej] at sat
          simp only [DRel] at dv
          obtain ⟨a, rfl, ha⟩ := dv
          obtain ⟨xs, e3, r3, _⟩ := m1.obj j a _ ha ej
          exact ⟨a, rfl, ⟨xs, SqL.of e3⟩, sat W1 l1 m1 _ (walk_obj ha)⟩
    | _ => exact sat.elim
/-- range -/
def rngD (lo : Int) (n : Nat) : List D := (List.range n).map fun i => .int (lo + (i : Nat))
theorem rng_len {lo : Int} {n : Nat} : (rngD lo n).length = n := by simp [rngD]
theorem walk_rng {K : Kb} {W : Wd} {lo : Int} {n : Nat} : WalkOk K W none (rngD lo n) (Itr lo n) where
  go := fun i W' M _ _ _ hi => by rw [rng_len] at hi; exact hi
  stop := fun W' M _ _ _ => by rw [rng_len]; exact Nat.le_refl n
  yld := fun i d W' M x H' e _ m _ y => by
    obtain ⟨e1, e2⟩ := y
    subst e1 e2
    have hi : i < n := by
      by_cases q : i < n
      · exact q
      · rw [List.getElem?_eq_none (by rw [rng_len]; omega)] at e; cases e
    have : d = .int (lo + (i : Nat)) := by
      simp only [rngD, List.getElem?_map, List.getElem?_range hi, Option.map_some, Option.some.injEq] at e
      exact e.symm
    subst this
    exact ⟨W', rfl, Le.refl _, m, rfl⟩
def rngOk (j : Int) : Bool := Nat.ble j.natAbs 4611686018427387903
theorem rngOk_iff {j : Int} (h : rngOk j = true) : -(2 ^ 62) ≤ j ∧ j < 2 ^ 62 := by
  have e : (2 : Int) ^ 62 = 4611686018427387904 := by decide +kernel
  have h' := Nat.le_of_ble_eq_true h
  rw [e]
  omega
theorem rngOk_of {j : Int} (h0 : 0 ≤ j) (h1 : j ≤ 1000000) : rngOk j = true := Nat.ble_eq_true_of_le (by omega)
def mRng1 (ms : MA) : MI := fun F r M => (ms F r M).bind fun ds M1 => match ds with
  | [.int j] => if rngOk j = true then .ok (rngD 0 j.toNat, none) M1 else .bad
  | _ => .bad
def mRng2 (ms : MA) : MI := fun F r M => (ms F r M).bind fun ds M1 => match ds with
  | [.int i, .int j] => if (rngOk i && rngOk j) = true then .ok (rngD i (j - i).toNat, none) M1 else .bad
  | _ => .bad
theorem ok_irng1 {tg a : Expr} {p pos : Pos} {ms : MA} {x : Str} (hx' : x = "range") (hx : x ∈ T.blt) (hg : C.sc.names.lookup x = some .globalImplicit) (hs : noStar a = true) (h : OkA T C [a] ms) : OkI T C tg (.Call (.Name x p) [a] [] pos) (mRng1 ms) := by
  intro n X wx q
  subst hx'
  refine PI.of (pi_range1 (gl_of q hg) (q.blt _ hx) (h n X wx q) (noStar_each hs)) fun s H R w => ?_
  obtain ⟨mu, M, r, mr, sr, sat⟩ := w
  refine ⟨mu, M, r, mr, sr, sat.bind.imp fun ds M1 W1 l1 m1 s1 vs dvs => ?_⟩
  split at s1
  · rename_i j
    obtain ⟨hc, s1⟩ := sat_ite s1
    have hc := rngOk_iff hc
    obtain ⟨v, rfl, dv⟩ := rels1 dvs
    cases (show v = _ from dv)
    exact ⟨j, rfl, hc.1, hc.2, s1.ok m1 _ walk_rng⟩
  · exact s1.elim
theorem ok_irng2 {tg a b : Expr} {p pos : Pos} {ms : MA} {x : Str} (hx' : x = "range") (hx : x ∈ T.blt) (hg : C.sc.names.lookup x = some .globalImplicit) (hs : noStar a = true) (hs2 : noStar b = true) (h : OkA T C [a, b] ms) : OkI T C tg (.Call (.Name x p) [a, b] [] pos) (mRng2 ms) := by
  intro n X wx q
  subst hx'
  refine PI.of (pi_range2 (gl_of q hg) (q.blt _ hx) (h n X wx q) (by rw [noStar_each hs, noStar_each hs2]; rfl) (noStar_each hs2)) fun s H R w => ?_
  obtain ⟨mu, M, r, mr, sr, sat⟩ := w
  refine ⟨mu, M, r, mr, sr, sat.bind.imp fun ds M1 W1 l1 m1 s1 vs dvs => ?_⟩
  split at s1
  · rename_i i j
    obtain ⟨hc, s1⟩ := sat_ite s1
    rw [Bool.and_eq_true] at hc
    have hc1 := rngOk_iff hc.1
    have hc2 := rngOk_iff hc.2
    obtain ⟨v, u, rfl, dv, du⟩ := rels2 dvs
    cases (show v = _ from dv)
    cases (show u = _ from du)
    exact ⟨i, j, rfl, ⟨hc1.1, hc1.2, hc2.1, hc2.2⟩, s1.ok m1 _ walk_rng⟩
  · exact s1.elim
/-- pairs: enumerate, zip -/
theorem walk_pair {K : Kb} {W : Wd} {ds : List D} {n : Nat} {J : It} {G : Hp → Prop} {xs ys : Nat → Option V} (w : Walk J n G (YPair xs ys)) (hG : ∀ W', Lk W W' → G W'.H) (hn : ds.length = n)
    (r : ∀ i d v u, ds[i]? = some d → xs i = some v → ys i = some u → ∃ a b, d = .tup [a, b] ∧ DRel K W a v ∧ DRel K W b u) : WalkOk K W none ds J where
  go := fun i W' M l m _ hi => w.goes i _ (by rw [← hn]; exact hi) (hG W' l)
  stop := fun W' M l m _ => by rw [hn]; exact w.stops _ (hG W' l)
  yld := fun i d W' M x H' e l m _ y => by
    have hi : i < n := by
      by_cases q : i < n
      · exact q
      · rw [List.getElem?_eq_none (by omega)] at e; cases e
    obtain ⟨p, v, u, rfl, np, rfl, ev, eu⟩ := w.yields i _ x H' hi (hG W' l) y
    obtain ⟨a, b, rfl, da, db⟩ := r i d v u e ev eu
    obtain ⟨le, m'⟩ := m.laid np (.tup [v, u])
    refine ⟨_, rfl, le, m', ?_⟩
    simp only [DRel]
    refine ⟨p, [v, u], rfl, .inl ⟨.inl upd_same, m.fresh np⟩, ?_⟩
    simp only [DRels]
    exact ⟨v, [u], rfl, DRel.lk (l.trans le.toLk) a v da, u, [], rfl, DRel.lk (l.trans le.toLk) b u db, rfl⟩
def enumD : Nat → List D → List D
  | _, [] => []
  | k, d :: ds => .tup [.int (k : Nat), d] :: enumD (k + 1) ds
theorem enumD_len : ∀ (k : Nat) (ds : List D), (enumD k ds).length = ds.length
  | _, [] => rfl
  | k, d :: ds => by simp [enumD, enumD_len (k + 1) ds]
theorem enumD_get : ∀ (k : Nat) (ds : List D) (i : Nat) (e : D), (enumD k ds)[i]? = some e → ∃ d, ds[i]? = some d ∧ e = .tup [.int ((k + i : Nat) : Int), d]
  | _, [], _, _, h => by simp [enumD] at h
  | k, d :: ds, 0, e, h => by simp [enumD] at h; exact ⟨d, rfl, h.symm⟩
  | k, d :: ds, i + 1, e, h => by
    obtain ⟨d', h1, h2⟩ := enumD_get (k + 1) ds i e (by simpa [enumD] using h)
    refine ⟨d', by simpa using h1, ?_⟩
    rw [h2]
    have : k + 1 + i = k + (i + 1) := by omega
    rw [this]

/-! ### for -/
def forG (gd : Gd) (g : MG) (b : MS) (F : FT) : List D → EV → Mem → Res Fl
  | [], r, M => if Gd.ok gd M = true then .ok (.next r) M else .bad
  | d :: ds, r, M => if Gd.ok gd M = true then (g F d r M).bind fun r1 M1 => (b F r1 M1).bind fun f M2 => match f with
    | .next r2 => forG gd g b F ds r2 M2
    | .cont r2 => forG gd g b F ds r2 M2
    | .brk r2 => .ok (.next r2) M2
    | .ret d => .ok (.ret d) M2
    | .rse x r2 => .ok (.rse x r2) M2 else .bad
def mFor (mi : MI) (g : MG) (b : MS) : MS := fun F r M => (mi F r M).toS r fun p M1 => forG p.2 g b F p.1 r M1
def noSet : Expr → Bool
  | .Set .. => false
  | _ => true
theorem noSet_it {e : Expr} {env : Env} (h : noSet e = true) : ∀ x, foldedSetIterable e env x = pure x := by
  intro x
  cases e <;> first | rfl | cases h
theorem drop_cons {α : Type} {l : List α} {i : Nat} (h : i < l.length) : l.drop i = l[i] :: l.drop (i + 1) := List.drop_eq_getElem_cons h
theorem ok_for (hq : C.calm = true) {tg iter : Expr} {body : List Stmt} {pos} {mi : MI} {g : MG} {mb : MS} (hs : noSet iter = true) (hi : OkI T C tg iter mi) (hg : OkG T C tg g) (hb : OkSs T C body mb) : OkS T C (.For tg iter body [] pos) (mFor mi g mb) := by
  intro n X wx h
  refine PS.of (ps_for h.pas (h.calm.trans hq) (hi n X wx h) (hg n X wx h) (hb n X wx h) (noSet_it hs)) fun Dn s H q => ?_
  obtain ⟨mu, M, r, mr, sr, sat⟩ := q
  refine ⟨mu, M, r, mr, sr, (Sat.toS sat sr).imp fun p M1 W1 l1 m1 s1 J wk => ?_⟩
  obtain ⟨ds, gd⟩ := p
  refine ⟨fun i m s H => m = ds.length - i ∧ i ≤ ds.length ∧ At (kb X) s H fun mu r M => Lk W1 ⟨H, mu⟩ ∧ Sat (kb X).no ⟨H, mu⟩ (forG gd g mb (callF T n) (ds.drop i) r M) (PF (kx X wx) Dn),
    ⟨ds.length, by simp, Nat.zero_le _, W1.mu, M1, r, m1, sr.le l1, Lk.refl _, s1⟩, ?_⟩
  rintro i m s2 H2 ⟨rfl, hle, mu2, M2, r2, mr2, sr2, lk2, sat2⟩
  by_cases hlt : i < ds.length
  · rw [drop_cons hlt] at sat2
    obtain ⟨hgd, sat2⟩ := sat_ite sat2
    refine .inr ⟨wk.go i _ _ lk2 mr2 hgd hlt, fun s H => (i + 1 ≤ ds.length ∧ At (kb X) s H fun mu r M => Lk W1 ⟨H, mu⟩ ∧ Sat (kb X).no ⟨H, mu⟩ (forG gd g mb (callF T n) (ds.drop (i + 1)) r M) (PF (kx X wx) Dn)), fun s' H' q' => ⟨ds.length - (i + 1), by omega, rfl, q'.1, q'.2⟩, fun x H' y => ?_⟩
    obtain ⟨W3, rfl, le3, mr3, dx⟩ := wk.yld i ds[i] _ M2 x H' (List.getElem?_eq_getElem hlt) lk2 mr2 hgd y
    refine ⟨W3.mu, M2, r2, mr3, sr2.le le3, ds[i], dx, (Sat.bind (Sat.le sat2 le3)).imp fun r4 M4 W4 l4 m4 s4 s' sr' => ?_⟩
    refine ⟨W4.mu, M4, r4, m4, sr', (Sat.bind s4).imp fun f M5 W5 l5 m5 s5 => ?_⟩
    have lk5 : Lk W1 W5 := lk2.trans ((le3.trans (l4.trans l5)).toLk)
    cases f with
    | next r5 => exact fun s' sr' => ⟨hlt, W5.mu, M5, r5, m5, sr', lk5, s5⟩
    | cont r5 => exact fun s' sr' => ⟨hlt, W5.mu, M5, r5, m5, sr', lk5, s5⟩
    | brk r5 => exact Sat.ok (show Sat _ _ (Res.ok (Fl.next r5) M5) _ from s5) m5
    | ret d => exact Sat.ok (show Sat _ _ (Res.ok (Fl.ret d) M5) _ from s5) m5
    | rse x r5 => exact Sat.ok (show Sat _ _ (Res.ok (Fl.rse x r5) M5) _ from s5) m5
  · have e : i = ds.length := by omega
    subst e
    rw [List.drop_length] at sat2
    obtain ⟨hgd, sat2⟩ := sat_ite sat2
    refine .inl ⟨wk.stop _ _ lk2 mr2 hgd, ?_⟩
    exact Sat.ok (show Sat _ _ (Res.ok (Fl.next r2) M2) _ from sat2) mr2 s2 sr2
end RI

set_option maxHeartbeats 4000000
namespace PySem
open Sem (wp)
open AutoSeq1 (wpAny_loadPart')
theorem meets_enumerate_newT (l : Addr) (items : Array Value) (n : Nat) (dct : Option Addr) (sl : Array (Option Value)) :
    Meets (Builtin.«enumerate.__new__» ⟨[.type "enumerate", .ref l], []⟩) (fun _ R s => s.heap.get? l = some { cls := .type "tuple", dict := dct, data := .seq items n, slots := sl } ∧
      R (.ok (.ret (.ref (s.heap.push { cls := .type "tuple_iterator", data := .fields #[.ref l, .int 0 0] }).objs.size)))
        { s with heap := (s.heap.push { cls := .type "tuple_iterator", data := .fields #[.ref l, .int 0 0] }).push { cls := .type "enumerate", data := .fields #[.none, .bool false, .ref s.heap.objs.size, rawInt 0, .none, .none] } }) :=
  .of_wp fun prog w A R s h => by
    obtain ⟨hp, g, d, tk, os⟩ := s; obtain ⟨hl, h⟩ := h
    have hsub := sub_enumerate
    have hL : Heap.IsTuple (Shared.heap ⟨hp, g, d, tk, os⟩) l items := ⟨_, hl, rfl, n, rfl⟩
    wp_walk using wpAny_loadPart' hl
    refine wpAny_stack_any fun st => wpAny_pure ?_
    split
    · rename_i c _ _ _ _ _
      cases (c == Value.type "enumerate")
      · wp_walk using wpAny_loadPart' hl, wpAny_pyIter_tuple hL
        exact ⟨_, rfl, h⟩
      · wp_walk using wpAny_loadPart' hl, wpAny_pyIter_tuple hL
        exact ⟨_, rfl, h⟩
    · wp_walk using wpAny_loadPart' hl, wpAny_pyIter_tuple hL
      exact ⟨_, rfl, h⟩
theorem wpAny_pyNext_enum_endT {prog : Program} {w : World} {A : Around} {E : Value → Shared → Prop} {s : Shared} {e it l : Addr} {i : Nat} {items : Array Value} {old : Value} {Q : Option Value → Shared → Prop} (hh : A.handled = none)
    (he : IsEnum s.heap e it i old) (hit : s.heap.IsTupleIter it l i) (hl : s.heap.IsTuple l items) (hx : items[i]? = none)
    (hQ : ∀ h', Heap.ExtBut it s.heap h' → Q none { s with heap := h' }) : wpAny (model prog w) A (pyNext (.ref e)) Q E s := by
  have hT : s.TypeIs (.ref e) "enumerate" := ⟨_, he, rfl⟩
  unfold pyNext
  refine wpAny_bind (wpAny_attempt (wpAny_callSpecial?_slot (name := Str.ofString "__next__") hT F.slot_enumerate_next
    (wpAny_call_entry F.slot_enumerate_next hT F.entry_enumerate_next ?_ (F.args_enumerate_next_1 _))))
  show wpAny _ _ (field (.ref e) 2 >>= _) _ _ _
  refine wpAny_bind (wpAny_field he rfl (x := .ref it) rfl ?_)
  refine wpAny_bind (wpAny_nextOf_tuple_end hh hit hl hx fun h' x he' hx' => ?_)
  obtain ⟨o, ho, hc⟩ := hx'
  refine wpAny_bind (wpAny_isInstance (T := "StopIteration") (b := true) ⟨o, ho, hc⟩ isSubtype_stop ?_)
  exact wpAny_pure (hQ _ he')
theorem call_enumerate_tuple {prog : Program} {w : World} {A : Around} {E : Value → Shared → Prop} {s : Shared} {l : Addr} {items : Array Value} {Q : Value → Shared → Prop} (hL : s.heap.IsTuple l items)
    (h : ∀ h', IsEnum h' (s.heap.objs.size + 1) s.heap.objs.size 0 .none → h'.IsTupleIter s.heap.objs.size l 0 → h'.objs.size = s.heap.objs.size + 2 →
      (∀ b o, s.heap.get? b = some o → h'.get? b = some o) → Q (.ref (s.heap.objs.size + 1)) { s with heap := h' }) :
    wpAny (model prog w) A (call (.type "enumerate") [.ref l]) Q E s := by
  obtain ⟨⟨c, dct, dt, sl⟩, hl, hc, n, hd⟩ := hL
  replace hc : c = .type "tuple" := hc
  replace hd : dt = .seq items n := hd
  subst hc hd
  refine callType_new F.called_enumerate (by decide) (F.typeCall_enumerate_1 _) (F.newCall_enumerate_1 _) (fun obj => F.args_object_init_2 obj _) F.entry_enumerate_new
    (meets_enumerate_newT l items n dct sl) ⟨hl, ?_⟩
  have hz : (s.heap.push { cls := .type "tuple_iterator", data := .fields #[.ref l, .int 0 0] }).objs.size = s.heap.objs.size + 1 := Heap.size_push ..
  show _ ∧ _
  rw [hz]
  have he : IsEnum ((s.heap.push { cls := .type "tuple_iterator", data := .fields #[.ref l, .int 0 0] }).push
      { cls := .type "enumerate", data := .fields #[.none, .bool false, .ref s.heap.objs.size, rawInt 0, .none, .none] }) (s.heap.objs.size + 1) s.heap.objs.size 0 .none := by
    have := Heap.get?_push_size (s.heap.push { cls := .type "tuple_iterator", data := .fields #[.ref l, .int 0 0] }) (o := { cls := .type "enumerate", data := .fields #[.none, .bool false, .ref s.heap.objs.size, rawInt 0, .none, .none] }) rfl
    rw [hz] at this; exact this
  refine ⟨⟨_, he, rfl⟩, h _ he ⟨_, Heap.get?_push_of_some _ (Heap.get?_push_size _ rfl), rfl, rfl⟩ (by rw [Heap.size_push, hz]) fun b o x => Heap.get?_push_of_some _ (Heap.get?_push_of_some _ x)⟩
end PySem
namespace RI
open PySem PySem.Spec PyProof.Rows L2
variable {T : Tb} {C : CC}
def IteT (K : PySem.W.Frag) (a : Addr) : It :=
  ⟨fun i H => ∃ (xs : List V) (x : V), SqT K H a xs ∧ xs[i]? = some x, fun i H v H' => ∃ T x, v = .ref T ∧ H T = none ∧ H' = upd H T (.tup [.int (i : Nat), x]) ∧ ∀ xs, SqT K H a xs → xs[i]? = some x, fun i H => ∃ xs : List V, SqT K H a xs ∧ xs.length ≤ i⟩
theorem enum_ne {h : Heap} {e it a : Addr} {k : Int} {old : Value} {its : Array Value} (he : IsEnum h e it k old) (p : h.IsTuple a its) : e ≠ a := by
  rintro rfl
  obtain ⟨o, ho, hc, _⟩ := p
  have he : h.get? e = some _ := he
  rw [he] at ho
  cases ho
  injection hc with hc
  exact absurd hc (by decide)
theorem turn_enumT {P : Program} {w : World} {K : PySem.W.Frag} {elts : List Expr} {kk : Nat} {tpos : Pos} (a e it : Addr) :
    Turn P w K (.Tuple elts kk tpos) (IteT K a) [e, it] e (fun i h => (∃ old, IsEnum h e it ((i : Nat) : Int) old) ∧ h.IsTupleIter it a i ∧ e ≠ it) where
  mem := by simp
  obj := fun i h st b hb => by
    obtain ⟨⟨old, he⟩, ⟨o, ho, hc, hd⟩, _⟩ := st
    have e' : b = e ∨ b = it := by simpa using hb
    rcases e' with z | z
    · rw [z]; exact ⟨_, he, fun v q => nomatch q⟩
    · rw [z]; exact ⟨o, ho, fun v q => by rw [hd] at q; cases q⟩
  keep := fun i h h' st k => let ⟨⟨old, he⟩, hi, hne⟩ := st; ⟨⟨old, k e (by simp) _ he⟩, hi.at fun o q => k it (by simp) o q, hne⟩
  item := by
    intro X hP hw hK hc i pins s σ H E I hf st hg
    subst hP hw hK
    obtain ⟨⟨old, he⟩, hit, hne⟩ := st
    obtain ⟨xs, x, hq, hx⟩ := hg
    obtain ⟨its, rv, p, hz⟩ := I.tuple hq
    obtain ⟨u, hu, ru⟩ := rv.get hx
    have hT : s.heap.IsTuple a its.toArray := p
    have hel : e < s.heap.objs.size := Heap.lt_size he
    have hil : it < s.heap.objs.size := by obtain ⟨_, q, _⟩ := hit; exact Heap.lt_size q
    have nai : a ≠ it := by
      rintro rfl
      obtain ⟨o, ho, hc1, _⟩ := hT
      obtain ⟨o', ho', hc2, _⟩ := hit
      rw [ho] at ho'; cases ho'; rw [hc1] at hc2; injection hc2 with hc2; exact absurd hc2 (by decide)
    have ili : i < its.toArray.size := by
      have hl := rv.length
      have : i < xs.length := by
        by_cases q : i < xs.length
        · exact q
        · rw [List.getElem?_eq_none (by omega)] at hx; cases hx
      simp only [List.size_toArray]; omega
    refine wpAny_pyNext_enum_itemD (Draws.tuple (prog := X.prog) (w := X.w) (A := X.A.in1) (I.ok.hd hc) it a nai its.toArray) he ⟨hit, hT⟩ ili hne (by simp only [List.mem_cons, List.not_mem_nil, or_false, not_or]; exact ⟨hne, enum_ne he hT⟩) fun u' h' tk hP ho hst' hT' hsz hk => ?_
    have hu' : u' = u := by
      have hP : its.toArray[i]? = some u' := hP
      rw [List.getElem?_toArray, hu] at hP
      exact (Option.some.inj hP).symm
    subst hu'
    refine ⟨_, rfl, wpAny_letOwnedTupleGo_enum (s := { s with heap := h', toks := tk + 1 }) ho fun h'' he' sb => ?_⟩
    have hT2 : h''.get? s.heap.objs.size = some { cls := .type "tuple", data := .seq #[.int i tk, u'] } := (sb.2 _ (Nat.ne_of_gt hel)).trans hT'
    have new : ObjOk X.prog X.w (upd H s.heap.objs.size (.tup [.int (i : Nat), x])) h'' s.heap.objs.size (.tup [.int (i : Nat), x]) :=
      ⟨by show 2 ≤ sizeLine; decide, [.int i tk, u'], .cons ⟨_, rfl⟩ (.cons ru .nil), ⟨_, hT2, rfl, _, rfl⟩⟩
    have I1 : Inv X pins σ (upd H s.heap.objs.size (.tup [.int (i : Nat), x])) { s with heap := h'', toks := tk + 1 } :=
      I.turnedNew (ch := [e, it]) (fun b ob hb q => (sb.2 b (fun z => hb (by simp [z]))).trans (hk b ob (fun z => hb (by simp [z])) (fun z => hb (by simp [z])) q)) hf (Nat.le_refl _) new
    refine ⟨.ref s.heap.objs.size, _, I1, rfl, ⟨_, x, rfl, I.hok.fresh (Nat.le_refl _), rfl, fun ys hy => by rw [I.tuple_inj hy hq]; exact hx⟩, ⟨⟨u', ?_⟩, hst'.1.at fun o q => (sb.2 it (Ne.symm hne)).trans q, hne⟩, fun b hb => ?_⟩
    · have e1 : ((i + 1 : Nat) : Int) = (i : Int) + 1 := by omega
      rw [e1]; exact he'
    · have hb' : b < s.heap.objs.size := by
        have e' : b = e ∨ b = it := by simpa using hb
        rcases e' with z | z
        · rw [z]; exact hel
        · rw [z]; exact hil
      rw [upd_ne (Nat.ne_of_lt hb')]
      exact (hf b hb).1
  done := by
    intro X hP hw hK hc i pins s σ H E I hf st hg
    subst hP hw hK
    obtain ⟨⟨old, he⟩, hit, hne⟩ := st
    obtain ⟨xs, hq, hx⟩ := hg
    obtain ⟨its, rv, p, hz⟩ := I.tuple hq
    have hT : s.heap.IsTuple a its.toArray := p
    obtain ⟨f0, f1, f2, f3, f4, f5⟩ := hf it (by simp)
    have hl := rv.length
    exact wpAny_pyNext_enum_endT (I.ok.hd hc) he hit hT (by simp; omega) fun h' eb => ⟨rfl, I.turned (t' := s.toks) (fun b o hb q => eb b o hb q) f0 f1 f3 f4 f5⟩
  self := fun A i s Q E st h => let ⟨⟨_, he⟩, _⟩ := st; wpAny_pyIter_enum he h
def iEnumT (K : PySem.W.Frag) (ta : TA) : TI := fun σ H R => ta σ H fun vs H1 => ∃ a xs, vs = [.ref a] ∧ SqT K H1 a xs ∧ R (IteT K a) H1
theorem pi_enumT {X : Cx} {e : Expr} {ta : TA} {p pos tpos : Pos} {elts : List Expr} {kk : Nat} (hg : Gl X "enumerate") (hm : X.mg "enumerate" = none) (ha : PA X [e] ta) (hs : starEach [e] X.env = [(false, eval e X.env)]) :
    PI X (.Tuple elts kk tpos) (.Call (.Name "enumerate" p) [e] [] pos) (iEnumT X.K ta) := by
  refine ⟨fun pins s σ H R I h => ?_⟩
  refine Call_ (ld_blt I hg hm boot_enumerate (PyProof.Rows.callWith_type1 (thn (ha.run pos pins s σ H _ I h) fun us s1 ⟨vs, H1, I1, r1, q1⟩ => ?_) hs rfl))
  obtain ⟨a, xs, ex, hq, q⟩ := q1
  subst ex
  cases r1 with
  | cons r rr =>
    cases rr
    cases r
    obtain ⟨its, rv, p', hz⟩ := I1.tuple hq
    refine call_enumerate_tuple p' fun h' he hit hsz hk => wpAny_pyIter_enum he ?_
    have I2 : Inv X pins σ H1 { s1 with heap := h' } := I1.kept (t' := s1.toks) hk
    refine ⟨s1.heap.objs.size + 1, [s1.heap.objs.size + 1, s1.heap.objs.size], _, _, H1, rfl, I2, turn_enumT a (s1.heap.objs.size + 1) s1.heap.objs.size, ⟨⟨.none, he⟩, hit, Nat.succ_ne_self _⟩, fun b hb => ?_, q⟩
    have e' : b = s1.heap.objs.size + 1 ∨ b = s1.heap.objs.size := by simpa using hb
    have hle : s1.heap.objs.size ≤ b := by
      rcases e' with z | z
      · rw [z]; exact Nat.le_add_right _ _
      · rw [z]; exact Nat.le_refl _
    exact I1.fpOk hle (I1.hok.fresh hle)
theorem walk_enumT {K : PySem.W.Frag} {a : Addr} {xs : List V} : Walk (IteT K a) xs.length (fun H => SqT K H a xs) (YPair (fun i => some (.int (i : Nat))) (fun i => xs[i]?)) := by
  refine ⟨fun i _ hi q => ⟨xs, xs[i], q, by simp [hi]⟩, fun _ q => ⟨xs, q, Nat.le_refl _⟩, fun i H x H' hi q y => ?_⟩
  obtain ⟨T, v, e1, e2, e3, e4⟩ := y
  exact ⟨T, _, v, e1, e2, e3, rfl, e4 xs q⟩
def mEnum (ms : MA) : MI := fun F r M => (ms F r M).bind fun ds M1 => match ds with
  | [.tup l] => .ok (enumD 0 l, none) M1
  | [.lst l] => .ok (enumD 0 l, none) M1
  | _ => .bad
theorem enum_pairs {K : Kb} {W : Wd} {l : List D} {xs : List V} (dr : DRels K W l xs) : ∀ i d v u, (enumD 0 l)[i]? = some d → (some (V.int (i : Nat))) = some v → xs[i]? = some u → ∃ a b, d = .tup [a, b] ∧ DRel K W a v ∧ DRel K W b u := by
  intro i d v u e ev eu
  obtain ⟨d', h1, h2⟩ := enumD_get 0 l i d e
  obtain ⟨w, ew, dw⟩ := dr.get h1
  rw [eu] at ew; cases ew
  cases ev
  refine ⟨_, _, h2, ?_, dw⟩
  show V.int _ = V.int _
  simp
theorem ok_ienum {elts : List Expr} {kk : Nat} {tpos p pos : Pos} {e : Expr} {ms : MA} {x : Str} (hx' : x = "enumerate") (hx : x ∈ T.blt) (hg : C.sc.names.lookup x = some .globalImplicit) (hs : noStar e = true) (h : OkA T C [e] ms) : OkI T C (.Tuple elts kk tpos) (.Call (.Name x p) [e] [] pos) (mEnum ms) := by
  intro n X wx q
  subst hx'
  refine PI.of (PI.or (pi_enum (gl_of q hg) (q.blt _ hx) (h n X wx q) (noStar_each hs)) (pi_enumT (gl_of q hg) (q.blt _ hx) (h n X wx q) (noStar_each hs))) fun s H R w => ?_
  obtain ⟨mu, M, r, mr, sr, sat⟩ := w
  unfold mEnum at sat
  cases e : ms (callF T n) r M with
  | bad => rw [e] at sat; exact sat.elim
  | exc x M1 =>
    rw [e] at sat
    refine .inl ⟨mu, M, r, mr, sr, ?_⟩
    show Sat _ _ (ms (callF T n) r M) _
    rw [e]
    exact sat
  | ok ds M1 =>
    rw [e] at sat
    simp only [Res.bind_ok] at sat
    split at sat
    · rename_i l
      refine .inr ⟨mu, M, r, mr, sr, ?_⟩
      show Sat _ _ (ms (callF T n) r M) _
      rw [e]
      intro W1 l1 m1 vs dvs
      obtain ⟨v, rfl, dv⟩ := rels1 dvs
      simp only [DRel] at dv
      obtain ⟨a, xs, rfl, t, dr⟩ := dv
      exact ⟨a, xs, rfl, t.sq, sat W1 l1 m1 _ (walk_pair walk_enumT (fun W' l' => (t.lk l').sq) (by rw [enumD_len, dr.length]) (enum_pairs dr))⟩
    · rename_i l
      refine .inl ⟨mu, M, r, mr, sr, ?_⟩
      show Sat _ _ (ms (callF T n) r M) _
      rw [e]
      intro W1 l1 m1 vs dvs
      obtain ⟨v, rfl, dv⟩ := rels1 dvs
      simp only [DRel] at dv
      obtain ⟨a, xs, rfl, t, dr⟩ := dv
      exact ⟨a, xs, rfl, t.sq, sat W1 l1 m1 _ (walk_pair walk_enum (fun W' l' => (t.lk l').sq) (by rw [enumD_len, dr.length]) (enum_pairs dr))⟩
    · exact sat.elim
end RI

set_option maxHeartbeats 4000000
namespace RI
open PySem PySem.Spec PyProof.Rows L2
variable {T : Tb} {C : CC}
/-! ### dicts that are walked: they are locked for ever -/
def ItR (d : Addr) (o : Obj) (u : HO) (vs : List V) : It := ⟨fun i H => H d = some (.frz o u) ∧ i < vs.length, fun i H x H' => H' = H ∧ vs[i]? = some x, fun i H => H d = some (.frz o u) ∧ vs.length ≤ i⟩
theorem walk_rk {d : Addr} {o : Obj} {u : HO} {vs : List V} : Walk (ItR d o u vs) vs.length (fun H => H d = some (.frz o u)) (YAt vs) := ⟨fun _ _ hi h => ⟨h, hi⟩, fun _ h => ⟨h, Nat.le_refl _⟩, fun _ _ _ _ _ _ y => y⟩
/-- the entries of a dict object, as they are told by u: its keys, its values -/
def DKV (P : Program) (w : World) (a : Addr) (u : HO) (ks vs : List V) : Prop := ∀ (H : Hp) (h : Heap) (o : Obj), h.get? a = some o → ObjOk P w H h a u → (a == sysModules) = false ∧ o.ExactDict ∧ ∃ es ep, o.data = .dict es ep ∧ es.size = ks.length ∧ es.size = vs.length ∧ (∀ (i : Nat) (x : V) (hi : i < es.size), ks[i]? = some x → RelV x es[i].key) ∧ ∀ (i : Nat) (x : V) (hi : i < es.size), vs[i]? = some x → RelV x es[i].val
section
variable {P : Program} {w : World} {K : PySem.W.Frag} {tg : Expr} {d : Addr} {o : Obj} {u : HO} {es : Array DictEntry} {ep : Nat} {vs : List V}
theorem raw_of {X : Cx} {pins : List (Addr × Obj)} {σ : L2.St} {H : Hp} {s : Shared} (I : Inv X pins σ H s) (hx : o.ExactDict) (hod : o.data = .dict es ep) (hd : H d = some (.frz o u)) : s.heap.DictRaw d es ep := ⟨o, (I.hok d _ hd).1, hx, hod⟩
theorem turn_rk (hx : o.ExactDict) (hod : o.data = .dict es ep) (hsz : es.size = vs.length) (hv : ∀ (i : Nat) (x : V) (hi : i < es.size), vs[i]? = some x → RelV x es[i].key) (it : Addr) : Turn P w K tg (ItR d o u vs) [it] it (fun i h => h.IsKeyIter it d i es.size ep) where
  mem := List.mem_singleton.mpr rfl
  obj := fun i h st b hb => by
    cases (List.mem_singleton.mp hb)
    obtain ⟨oi, e, c, dd⟩ := st
    exact ⟨oi, e, fun v z => by rw [dd] at z; cases z⟩
  keep := fun i h h' st k => st.at fun oi e => k it (List.mem_singleton.mpr rfl) oi e
  item := by
    intro X eP ew eK hc i pins s σ H E I hf st hg
    subst eP ew eK
    have ff := hf it (List.mem_singleton.mpr rfl)
    have hi : i < es.size := by rw [hsz]; exact hg.2
    have hx' : vs[i]? = some (vs[i]'hg.2) := List.getElem?_eq_getElem hg.2
    refine wpAny_pyNext_keys_item_raw st (raw_of I hx hod hg.1) hi fun h' st' sb => ?_
    have I1 : Inv X pins σ H { s with heap := h' } := I.turned (t' := s.toks) (fun b ob hb e => (sb.2 b hb).trans e) ff.1 ff.2.1 ff.2.2.2.1 ff.2.2.2.2.1 ff.2.2.2.2.2
    obtain ⟨oi, e, c, dd⟩ := id st'
    exact ⟨_, rfl, go_of (s := { s with heap := h' }) e c dd (by decide) ⟨vs[i]'hg.2, H, I1, hv i _ hi hx', ⟨rfl, hx'⟩, st', fun b hb => (hf b hb).1⟩⟩
  done := by
    intro X eP ew eK hc i pins s σ H E I hf st hg
    subst eP ew eK
    have ff := hf it (List.mem_singleton.mpr rfl)
    exact wpAny_pyNext_keys_end_raw (I.ok.hd hc) st (raw_of I hx hod hg.1) (by rw [hsz]; exact hg.2) fun h' eb => ⟨rfl, I.turned (t' := s.toks) (fun b ob hb e => eb b ob hb e) ff.1 ff.2.1 ff.2.2.2.1 ff.2.2.2.2.1 ff.2.2.2.2.2⟩
  self := fun A i s Q E st h => wpAny_pyIter_keyiter st h
end
/-- a dict that comes, locked if it is not -/
def iDctK (P : Program) (w : World) (tl : TE) : TI := fun σ H R => tl σ H fun x H1 => ∃ a u ks vs, x = .ref a ∧ DKV P w a u ks vs ∧ ((H1 a = some u ∧ Mut (some u) ∧ ∀ o, R (ItR a o u ks) (upd H1 a (.frz o u))) ∨ ∃ o, H1 a = some (.frz o u) ∧ R (ItR a o u ks) H1)
theorem pi_dct {X : Cx} {tg l : Expr} {tl : TE} (hl : PE X l tl) : PI X tg l (iDctK X.prog X.w tl) := by
  refine ⟨fun pins s σ H R I h => ?_⟩
  refine thn (hl.run pins s σ H _ I h) fun v s1 ⟨x, H1, I1, r1, q1⟩ => ?_
  obtain ⟨a, u, ks, vs, rfl, hk, q⟩ := q1
  cases r1
  have main : ∀ (o : Obj) (H2 : Hp), Inv X pins σ H2 s1 → H2 a = some (.frz o u) → R (ItR a o u ks) H2 → wpAny (model X.prog X.w) X.A (pyIter (.ref a)) (PIE X pins σ tg R) X.xe s1 := by
    intro o H2 I2 e2 q2
    obtain ⟨g1, g2⟩ := I2.hok a _ e2
    obtain ⟨hs, hx, es, ep, hod, hz, _, hv, _⟩ := hk H2 s1.heap o g1 g2
    refine wpAny_pyIter_dict_raw hs (raw_of I2 hx hod e2) ?_
    exact pi_one I2 _ (turn_rk hx hod hz hv _) ⟨_, Heap.get?_push_size _ rfl, rfl, by simp⟩ q2
  rcases q with ⟨e1, mt, q⟩ | ⟨o, e1, q⟩
  · obtain ⟨o, I2⟩ := I1.lock e1 mt
    exact main o _ I2 upd_same (q o)
  · exact main o H1 I1 e1 q
/-! what the two kinds of dicts give -/
theorem dkv_k {P : Program} {w : World} {a : Addr} {kvs : List (Key × V)} : DKV P w a (.dK kvs) (kvs.map fun p => kV p.1) (kvs.map (·.2)) := by
  intro H h o ho ok
  obtain ⟨_, hs, vs, kv, dd⟩ := ok
  obtain ⟨es, ep, ⟨o', ho', hx, hod⟩, hz, he⟩ := dd.raw
  rw [ho] at ho'; cases ho'
  have hl : kvs.length = vs.length := Paired.length kv
  refine ⟨hs, hx, es, ep, hod, by rw [List.length_map]; omega, by rw [List.length_map]; omega, fun i x hi e => ?_, fun i x hi e => ?_⟩
  · rw [List.getElem?_map] at e
    obtain ⟨⟨k, v⟩, e1, e2⟩ := Option.map_eq_some_iff.mp e
    obtain ⟨u, e3, _⟩ := kv_get kv e1
    cases e2
    exact relV_key (show keyIs k es[i].key = true from (he i hi k u e3).1)
  · rw [List.getElem?_map] at e
    obtain ⟨⟨k, v⟩, e1, e2⟩ := Option.map_eq_some_iff.mp e
    obtain ⟨u, e3, r3⟩ := kv_get kv e1
    cases e2
    rw [(he i hi k u e3).2]
    exact r3
theorem dkv_t {K : Kb} {W : Wd} {i : Nat} {a : Addr} {l : List (D × D)} {xs : List (NestedKey × Addr × Value)} (hs : (a == sysModules) = false) (p : Paired (KVR K W i) l xs) : ∃ vs, DKV K.P K.w a (DctO K.P K.w a xs) (xs.map fun x => V.ref x.2.1) vs ∧ DRels K W (l.map (·.1)) (xs.map fun x => V.ref x.2.1) ∧ DRels K W (l.map (·.2)) vs := by
  have key : ∀ {l : List (D × D)} {xs : List (NestedKey × Addr × Value)}, Paired (KVR K W i) l xs → ∃ vs, Paired (fun (v : V) (x : NestedKey × Addr × Value) => RelV v x.2.2) vs xs ∧ DRels K W (l.map (·.1)) (xs.map fun x => V.ref x.2.1) ∧ DRels K W (l.map (·.2)) vs := by
    intro l xs p
    induction p with
    | nil => exact ⟨[], .nil, rfl, rfl⟩
    | cons r t ih =>
      obtain ⟨vs, h1, h2, h3⟩ := ih
      obtain ⟨_, _, r3, ⟨v, r4, r5⟩, _⟩ := r
      exact ⟨v :: vs, .cons r5 h1, ⟨_, _, rfl, r3, h2⟩, ⟨v, vs, rfl, r4, h3⟩⟩
  obtain ⟨vs, h1, h2, h3⟩ := key p
  refine ⟨vs, ?_, h2, h3⟩
  intro H h o ho ok
  obtain ⟨o', es, ep, g1, g2, g3, g4⟩ := ok.1
  rw [ho] at g1; cases g1
  have hz := size_of_entries g4
  have hl : vs.length = xs.length := Paired.length h1
  have at' : ∀ (j : Nat) (hj : j < es.size), ∃ y, xs[j]? = some y ∧ es[j].key = .ref y.2.1 ∧ es[j].val = y.2.2 := by
    intro j hj
    have hx : j < xs.length := by omega
    have e := entry_at g4 j
    rw [Array.getElem?_eq_getElem hj, List.getElem?_eq_getElem hx, Option.map_some] at e
    have e' := Option.some.inj e
    exact ⟨xs[j], List.getElem?_eq_getElem hx, by rw [e']; rfl, by rw [e']; rfl⟩
  refine ⟨hs, g2, es, ep, g3, by rw [List.length_map]; omega, by omega, fun j x hj e => ?_, fun j x hj e => ?_⟩
  · obtain ⟨y, e1, e2, _⟩ := at' j hj
    rw [List.getElem?_map, e1] at e
    cases e
    exact e2
  · obtain ⟨y, e1, _, e3⟩ := at' j hj
    have hv : ∀ {vs : List V} {xs : List (NestedKey × Addr × Value)}, Paired (fun (v : V) (x : NestedKey × Addr × Value) => RelV v x.2.2) vs xs → ∀ (j : Nat) (x : V) (y : NestedKey × Addr × Value), vs[j]? = some x → xs[j]? = some y → RelV x y.2.2 := by
      intro vs xs p
      induction p with
      | nil => intro j x y e; simp at e
      | cons r t ih =>
        intro j x y e1 e2
        cases j with
        | zero => simp at e1 e2; subst e1; subst e2; exact r
        | succ j => exact ih j x y (by simpa using e1) (by simpa using e2)
    rw [e3]
    exact hv h1 j x y e e1
theorem drels_k {K : Kb} {W : Wd} {i : Nat} {l : List (D × D)} {kvs : List (Key × V)} (p : Paired (KSR K W i) l kvs) : DRels K W (l.map (·.1)) (kvs.map fun p => kV p.1) ∧ DRels K W (l.map (·.2)) (kvs.map (·.2)) := by
  induction p with
  | nil => exact ⟨rfl, rfl⟩
  | @cons q x l kvs r t ih =>
    refine ⟨⟨_, _, rfl, ?_, ih.1⟩, ⟨_, _, rfl, r.2.1, ih.2⟩⟩
    obtain ⟨h1, _, _⟩ := r
    show DRel K W q.1 (kV x.1)
    cases hq : q.1 with
    | int n => rw [hq] at h1; simp only [D.key1, Option.some.injEq] at h1; rw [← h1]; rfl
    | str z => rw [hq] at h1; simp only [D.key1, Option.some.injEq] at h1; rw [← h1]; rfl
    | _ => rw [hq] at h1; cases h1
/-- locking -/
theorem lock_at {K : Kb} {W : Wd} {M : Mem} (m : MRel K W M) {j : Nat} {a : Addr} (ha : W.mu.l[j]? = some a) {u : HO} {lk : Bool} (hl : LkH W a lk u) (mo : Bool → MO) (new : ∀ W', Lk W W' → LkH W' a true u → ORel K W' j a (mo true)) (Q : Obj → Hp → Prop)
    (h : ∀ o W', Le W W' → MRel K W' (M.set j (mo true)) → W'.H a = some (.frz o u) → Fz W' a → Q o W'.H) (hmt : Mut (some u)) (hM : lk = true → M[j]? = some (mo true)) : (W.H a = some u ∧ Mut (some u) ∧ ∀ o, Q o (upd W.H a (.frz o u))) ∨ ∃ o, W.H a = some (.frz o u) ∧ Q o W.H := by
  cases lk with
  | false =>
    obtain ⟨nk, e⟩ := (show _ ∧ _ from hl)
    refine .inl ⟨e, hmt, fun o => ?_⟩
    obtain ⟨l1, m1⟩ := m.lockO ha nk (.frz o u) (mo true) fun W' lk e' k => new W' lk ⟨k, o, e'⟩
    exact h o _ l1 m1 upd_same ⟨.inr List.mem_cons_self, fun z => (m.pv a z).2 (List.mem_of_getElem? ha)⟩
  | true =>
    obtain ⟨k, o, e⟩ := (show _ ∧ _ from hl)
    refine .inr ⟨o, e, ?_⟩
    have hs : M.set j (mo true) = M := by
      have hj := hM rfl
      refine List.ext_getElem? fun i => ?_
      by_cases hij : j = i
      · subst hij
        have : j < M.length := by
          by_cases q : j < M.length
          · exact q
          · rw [List.getElem?_eq_none (by omega)] at hj; cases hj
        rw [List.getElem?_set_self this, hj]
      · rw [List.getElem?_set_ne hij]
    exact h o W (Le.refl W) (by rw [hs]; exact m) e (m.fzk k)
/-- what may be walked: a list, a tuple, or a dict by its keys (it is then never written again) -/
def mSeqK (m : ME) : MI := fun F r M => (m F r M).bind fun d M1 => match d with
  | .tup l => .ok (l, none) M1
  | .lst l => .ok (l, none) M1
  | .obj j => match M1[j]? with
    | some (.lst l) => .ok (l, some (j, l)) M1
    | some (.dct _ l) => .ok (l.map (·.1), none) (M1.set j (.dct true l))
    | some (.dks _ l) => .ok (l.map (·.1), none) (M1.set j (.dks true l))
    | _ => .bad
  | _ => .bad
theorem ok_iseqK {tg e : Expr} {m : ME} (h : OkE T C e m) : OkI T C tg e (mSeqK m) := by
  intro n X wx q
  refine PI.of (PI.or (PI.or (pi_list (h n X wx q)) (pi_tup (h n X wx q))) (pi_dct (h n X wx q))) fun s H R w => ?_
  have w0 := w
  obtain ⟨mu, M, r, mr, sr, sat⟩ := w
  unfold mSeqK at sat
  cases e : m (callF T n) r M with
  | bad => rw [e] at sat; exact sat.elim
  | exc x M1 =>
    rw [e] at sat
    refine .inl (.inl ⟨mu, M, r, mr, sr, ?_⟩)
    show Sat _ _ (m (callF T n) r M) _
    rw [e]
    exact sat
  | ok d M1 =>
    rw [e] at sat
    simp only [Res.bind_ok] at sat
    cases d with
    | tup l =>
      refine .inl (.inr ⟨mu, M, r, mr, sr, ?_⟩)
      show Sat _ _ (m (callF T n) r M) _
      rw [e]
      intro W1 l1 m1 v dv
      simp only [DRel] at dv
      obtain ⟨a, xs, rfl, t, dr⟩ := dv
      exact ⟨a, rfl, ⟨xs, t.sq⟩, sat W1 l1 m1 _ (walk_at walk_tup (fun W' l' => (t.lk l').sq) dr)⟩
    | lst l =>
      refine .inl (.inl ⟨mu, M, r, mr, sr, ?_⟩)
      show Sat _ _ (m (callF T n) r M) _
      rw [e]
      intro W1 l1 m1 v dv
      simp only [DRel] at dv
      obtain ⟨a, xs, rfl, t, dr⟩ := dv
      exact ⟨a, rfl, ⟨xs, t.sq⟩, sat W1 l1 m1 _ (walk_at walk_list (fun W' l' => (t.lk l').sq) dr)⟩
    | obj j =>
      cases ej : M1[j]? with
      | none => simp only [ej] at sat; exact sat.elim
      | some o =>
        cases o with
        | ins _ l => simp only [ej] at sat; exact sat.elim
        | lst l =>
          refine .inl (.inl ⟨mu, M, r, mr, sr, ?_⟩)
          show Sat _ _ (m (callF T n) r M) _
          rw [e]
          intro W1 l1 m1 v dv
          simp only [ej] at sat
          simp only [DRel] at dv
          obtain ⟨a, rfl, ha⟩ := dv
          obtain ⟨xs, e3, r3, _⟩ := m1.obj j a _ ha ej
          exact ⟨a, rfl, ⟨xs, SqL.of e3⟩, sat W1 l1 m1 _ (walk_obj ha)⟩
        | dct lk l =>
          refine .inr ⟨mu, M, r, mr, sr, ?_⟩
          show Sat _ _ (m (callF T n) r M) _
          rw [e]
          intro W1 l1 m1 v dv
          simp only [ej] at sat
          simp only [DRel] at dv
          obtain ⟨a, rfl, ha⟩ := dv
          obtain ⟨xs, g1, g2, g3, g4, g5⟩ := m1.obj j a _ ha ej
          obtain ⟨vs, k1, k2, k3⟩ := dkv_t (a := a) g4 g5
          refine ⟨a, DctO (kb X).P (kb X).w a xs, _, vs, rfl, k1, lock_at m1 ha g1 (fun b => .dct b l) (fun W' lk' hl => ⟨xs, hl, g2, g3, g4, Paired.mapP g5 fun _ _ q => q.lk lk'⟩) (fun o H' => R (ItR a o (DctO (kb X).P (kb X).w a xs) (xs.map fun x => V.ref x.2.1)) H') (fun o W' l' m' e' fz => ?_) True.intro (fun hk => by subst hk; exact ej)⟩
          exact sat W' (l1.trans l') m' _ (walk_at walk_rk (fun W'' l'' => (l''.keep a _ e' fz).1) (DRels.le l' _ _ k2))
        | dks lk l =>
          refine .inr ⟨mu, M, r, mr, sr, ?_⟩
          show Sat _ _ (m (callF T n) r M) _
          rw [e]
          intro W1 l1 m1 v dv
          simp only [ej] at sat
          simp only [DRel] at dv
          obtain ⟨a, rfl, ha⟩ := dv
          obtain ⟨kvs, g1, g2⟩ := m1.obj j a _ ha ej
          obtain ⟨k2, k3⟩ := drels_k g2
          refine ⟨a, .dK kvs, _, _, rfl, dkv_k, lock_at m1 ha g1 (fun b => .dks b l) (fun W' lk' hl => ⟨kvs, hl, Paired.mapP g2 fun _ _ q => q.lk lk'⟩) (fun o H' => R (ItR a o (.dK kvs) (kvs.map fun p => kV p.1)) H') (fun o W' l' m' e' fz => ?_) True.intro (fun hk => by subst hk; exact ej)⟩
          exact sat W' (l1.trans l') m' _ (walk_at walk_rk (fun W'' l'' => (l''.keep a _ e' fz).1) (DRels.le l' _ _ k2))
    | _ => exact sat.elim
end RI

set_option maxHeartbeats 4000000
namespace RI
open PySem PySem.Spec PyProof.Rows L2
variable {T : Tb} {C : CC}
/-! ### d.items(), walked into pairs -/
def ItP (d : Addr) (o : Obj) (u : HO) (ks vs : List V) : It := ⟨fun i H => H d = some (.frz o u) ∧ i < ks.length, fun i H x H' => ∃ t k v, x = .ref t ∧ H t = none ∧ H' = upd H t (.tup [k, v]) ∧ ks[i]? = some k ∧ vs[i]? = some v, fun i H => H d = some (.frz o u) ∧ ks.length ≤ i⟩
theorem walk_ri {d : Addr} {o : Obj} {u : HO} {ks vs : List V} : Walk (ItP d o u ks vs) ks.length (fun H => H d = some (.frz o u)) (YPair (fun i => ks[i]?) (fun i => vs[i]?)) := ⟨fun _ _ hi h => ⟨h, hi⟩, fun _ h => ⟨h, Nat.le_refl _⟩, fun _ _ _ _ _ _ y => y⟩
section
variable {P : Program} {w : World} {K : PySem.W.Frag} {d : Addr} {o : Obj} {u : HO} {es : Array DictEntry} {ep : Nat} {ks vs : List V} {elts : List Expr} {kk : Nat} {tpos : Pos}
theorem turn_ri (hx : o.ExactDict) (hod : o.data = .dict es ep) (hz : es.size = ks.length) (hz' : es.size = vs.length) (hk : ∀ (i : Nat) (x : V) (hi : i < es.size), ks[i]? = some x → RelV x es[i].key) (hv : ∀ (i : Nat) (x : V) (hi : i < es.size), vs[i]? = some x → RelV x es[i].val) (it : Addr) :
    Turn P w K (.Tuple elts kk tpos) (ItP d o u ks vs) [it] it (fun i h => ∃ ok ov, IsItemIter h it d i es.size ep ok ov) where
  mem := List.mem_singleton.mpr rfl
  obj := fun i h st b hb => by
    cases (List.mem_singleton.mp hb)
    obtain ⟨ok, ov, e⟩ := st
    exact ⟨_, e, fun v z => nomatch z⟩
  keep := fun i h h' st k => let ⟨ok, ov, e⟩ := st; ⟨ok, ov, k it (List.mem_singleton.mpr rfl) _ e⟩
  item := by
    intro X eP ew eK hc i pins s σ H E I hf st hg
    subst eP ew eK
    obtain ⟨ok, ov, st⟩ := st
    have hi : i < es.size := by rw [hz]; exact hg.2
    have hi' : i < vs.length := by omega
    have k1 : ks[i]? = some (ks[i]'hg.2) := List.getElem?_eq_getElem hg.2
    have v1 : vs[i]? = some (vs[i]'hi') := List.getElem?_eq_getElem hi'
    have hlt : it < s.heap.objs.size := Heap.lt_size st
    refine wpAny_pyNext_items_item_raw st (raw_of I hx hod hg.1) hi fun h' ho hT hsz hkp => ?_
    refine ⟨_, rfl, wpAny_letOwnedTupleGo_items (s := { s with heap := h' }) ho fun h2 he2 sb => ?_⟩
    have hT2 := (sb.2 s.heap.objs.size (Nat.ne_of_gt hlt)).trans hT
    have new : ObjOk X.prog X.w (upd H s.heap.objs.size (.tup [ks[i]'hg.2, vs[i]'hi'])) h2 s.heap.objs.size (.tup [ks[i]'hg.2, vs[i]'hi']) :=
      ⟨(by show 2 ≤ sizeLine; rw [sizeLine_eq]; omega), [es[i].key, es[i].val], .cons (hk i _ hi k1) (.cons (hv i _ hi v1) .nil), ⟨_, hT2, rfl, _, rfl⟩⟩
    have I1 : Inv X pins σ (upd H s.heap.objs.size (.tup [ks[i]'hg.2, vs[i]'hi'])) { s with heap := h2 } := I.turnedNew (t' := s.toks) (ch := [it]) (fun b ob hb e => (sb.2 b (fun z => hb (List.mem_singleton.mpr z))).trans (hkp b ob (fun z => hb (List.mem_singleton.mpr z)) e)) hf (Nat.le_refl _) new
    refine ⟨.ref s.heap.objs.size, _, I1, rfl, ⟨_, _, _, rfl, I.hok.fresh (Nat.le_refl _), rfl, k1, v1⟩, ⟨_, _, he2⟩, fun b hb => ?_⟩
    have eb := List.mem_singleton.mp hb
    rw [eb, upd_ne (Nat.ne_of_lt hlt)]
    exact (hf it (List.mem_singleton.mpr rfl)).1
  done := by
    intro X eP ew eK hc i pins s σ H E I hf st hg
    subst eP ew eK
    obtain ⟨ok, ov, st⟩ := st
    have ff := hf it (List.mem_singleton.mpr rfl)
    exact wpAny_pyNext_items_end_raw (I.ok.hd hc) st (raw_of I hx hod hg.1) (by rw [hz]; exact hg.2) fun h' eb => ⟨rfl, I.turned (t' := s.toks) (fun b ob hb e => eb b ob hb e) ff.1 ff.2.1 ff.2.2.2.1 ff.2.2.2.2.1 ff.2.2.2.2.2⟩
  self := fun A i s Q E st h => by
    obtain ⟨ok, ov, st⟩ := st
    exact wpAny_pyIter_itemiter st h
end
def iDctI (P : Program) (w : World) (tl : TE) : TI := fun σ H R => tl σ H fun x H1 => ∃ a u ks vs, x = .ref a ∧ DKV P w a u ks vs ∧ ((H1 a = some u ∧ Mut (some u) ∧ ∀ o, R (ItP a o u ks vs) (upd H1 a (.frz o u))) ∨ ∃ o, H1 a = some (.frz o u) ∧ R (ItP a o u ks vs) H1)
theorem pi_items' {X : Cx} {l : Expr} {tl : TE} {elts : List Expr} {kk : Nat} {tpos apos cpos : Pos} (hl : PE X l tl) (hb : attributeBase l "items" X.env (eval l X.env) = eval l X.env) (hline : (apos.endLine == cpos.line) = true) : PI X (.Tuple elts kk tpos) (.Call (.Attribute l "items" apos) [] [] cpos) (iDctI X.prog X.w tl) := by
  refine ⟨fun pins s σ H R I h => ?_⟩
  refine wpAny_Call_method (T := "dict") (id := "dict.items") hb rfl hline F.plainAttrs_dict F.slot_dict_items F.type_dict_items (thn (hl.run pins s σ H _ I h) fun v s1 ⟨x, H1, I1, r1, q1⟩ => ?_)
  obtain ⟨a, u, ks, vs, rfl, hk, q⟩ := q1
  cases r1
  have main : ∀ (o : Obj) (H2 : Hp), Inv X pins σ H2 s1 → H2 a = some (.frz o u) → R (ItP a o u ks vs) H2 → s1.TypeIs (.ref a) "dict" ∧ (∀ b : Addr, Value.ref a = Value.ref b → ∃ ob, s1.heap.get? b = some ob ∧ ob.dict = none) ∧ wpAny (model X.prog X.w) X.A (callWith cpos (.builtin "dict.items") [.ref a] [] []) (fun v s2 => wpAny (model X.prog X.w) X.A (pyIter v) (PIE X pins σ (.Tuple elts kk tpos) R) X.xe s2) X.xe s1 := by
    intro o H2 I2 e2 q2
    obtain ⟨g1, g2⟩ := I2.hok a _ e2
    obtain ⟨hs, hx, es, ep, hod, hz, hz', hv, hv'⟩ := hk H2 s1.heap o g1 g2
    have raw := raw_of I2 hx hod e2
    have I3 : Inv X pins σ H2 { s1 with heap := s1.heap.push { cls := .type "dict_items", data := .fields #[.ref a] } } := I2.kept (t' := s1.toks) fun b ob q => Heap.get?_push_of_some _ q
    have fin : wpAny (model X.prog X.w) X.A (pyIter (.ref s1.heap.objs.size)) (PIE X pins σ (.Tuple elts kk tpos) R) X.xe { s1 with heap := s1.heap.push { cls := .type "dict_items", data := .fields #[.ref a] } } := by
      refine wpAny_pyIter_items_raw (d := a) ⟨_, Heap.get?_push_size _ rfl, rfl, rfl⟩ (raw.at fun o' q => Heap.get?_push_of_some _ q) ?_
      exact pi_one (tk := s1.toks) I3 _ (turn_ri hx hod hz hz' hv hv' _) ⟨.none, .none, Heap.get?_push_size _ rfl⟩ q2
    exact ⟨raw.typeIs, fun b eb => by cases eb; exact ⟨o, g1, hx.2.1⟩, method_meetsIn F.slot_dict_items F.entry_dict_items rfl (PySem.evalArgs_none ⟨rfl, raw.typeIs, F.args_dict_items_1 _, _, meets_dict_items_raw a hs, ⟨es, ep, raw⟩, fin⟩)⟩
  rcases q with ⟨e1, mt, q⟩ | ⟨o, e1, q⟩
  · obtain ⟨o, I2⟩ := I1.lock e1 mt
    exact main o _ I2 upd_same (q o)
  · exact main o H1 I1 e1 q
theorem turn_rv {P : Program} {w : World} {K : PySem.W.Frag} {tg : Expr} {d : Addr} {o : Obj} {u : HO} {es : Array DictEntry} {ep : Nat} {vs : List V} (hx : o.ExactDict) (hod : o.data = .dict es ep) (hsz : es.size = vs.length) (hv : ∀ (i : Nat) (x : V) (hi : i < es.size), vs[i]? = some x → RelV x es[i].val) (it : Addr) : Turn P w K tg (ItR d o u vs) [it] it (fun i h => h.IsValIter it d i es.size ep) where
  mem := List.mem_singleton.mpr rfl
  obj := fun i h st b hb => by
    cases (List.mem_singleton.mp hb)
    obtain ⟨oi, e, c, dd⟩ := st
    exact ⟨oi, e, fun v z => by rw [dd] at z; cases z⟩
  keep := fun i h h' st k => st.at fun oi e => k it (List.mem_singleton.mpr rfl) oi e
  item := by
    intro X eP ew eK hc i pins s σ H E I hf st hg
    subst eP ew eK
    have ff := hf it (List.mem_singleton.mpr rfl)
    have hi : i < es.size := by rw [hsz]; exact hg.2
    have hx' : vs[i]? = some (vs[i]'hg.2) := List.getElem?_eq_getElem hg.2
    refine wpAny_pyNext_values_item_raw st (raw_of I hx hod hg.1) hi fun h' st' sb => ?_
    have I1 : Inv X pins σ H { s with heap := h' } := I.turned (t' := s.toks) (fun b ob hb e => (sb.2 b hb).trans e) ff.1 ff.2.1 ff.2.2.2.1 ff.2.2.2.2.1 ff.2.2.2.2.2
    obtain ⟨oi, e, c, dd⟩ := id st'
    exact ⟨_, rfl, go_of (s := { s with heap := h' }) e c dd (by decide) ⟨vs[i]'hg.2, H, I1, hv i _ hi hx', ⟨rfl, hx'⟩, st', fun b hb => (hf b hb).1⟩⟩
  done := by
    intro X eP ew eK hc i pins s σ H E I hf st hg
    subst eP ew eK
    have ff := hf it (List.mem_singleton.mpr rfl)
    exact wpAny_pyNext_values_end_raw (I.ok.hd hc) st (raw_of I hx hod hg.1) (by rw [hsz]; exact hg.2) fun h' eb => ⟨rfl, I.turned (t' := s.toks) (fun b ob hb e => eb b ob hb e) ff.1 ff.2.1 ff.2.2.2.1 ff.2.2.2.2.1 ff.2.2.2.2.2⟩
  self := fun A i s Q E st h => wpAny_pyIter_valiter st h
def iDctV (P : Program) (w : World) (tl : TE) : TI := fun σ H R => tl σ H fun x H1 => ∃ a u ks vs, x = .ref a ∧ DKV P w a u ks vs ∧ ((H1 a = some u ∧ Mut (some u) ∧ ∀ o, R (ItR a o u vs) (upd H1 a (.frz o u))) ∨ ∃ o, H1 a = some (.frz o u) ∧ R (ItR a o u vs) H1)
theorem pi_values' {X : Cx} {l : Expr} {tl : TE} {tg : Expr} {apos cpos : Pos} (hl : PE X l tl) (hb : attributeBase l "values" X.env (eval l X.env) = eval l X.env) (hline : (apos.endLine == cpos.line) = true) : PI X tg (.Call (.Attribute l "values" apos) [] [] cpos) (iDctV X.prog X.w tl) := by
  refine ⟨fun pins s σ H R I h => ?_⟩
  refine wpAny_Call_method (T := "dict") (id := "dict.values") hb rfl hline F.plainAttrs_dict F.slot_dict_values F.type_dict_values (thn (hl.run pins s σ H _ I h) fun v s1 ⟨x, H1, I1, r1, q1⟩ => ?_)
  obtain ⟨a, u, ks, vs, rfl, hk, q⟩ := q1
  cases r1
  have main : ∀ (o : Obj) (H2 : Hp), Inv X pins σ H2 s1 → H2 a = some (.frz o u) → R (ItR a o u vs) H2 → s1.TypeIs (.ref a) "dict" ∧ (∀ b : Addr, Value.ref a = Value.ref b → ∃ ob, s1.heap.get? b = some ob ∧ ob.dict = none) ∧ wpAny (model X.prog X.w) X.A (callWith cpos (.builtin "dict.values") [.ref a] [] []) (fun v s2 => wpAny (model X.prog X.w) X.A (pyIter v) (PIE X pins σ tg R) X.xe s2) X.xe s1 := by
    intro o H2 I2 e2 q2
    obtain ⟨g1, g2⟩ := I2.hok a _ e2
    obtain ⟨hs, hx, es, ep, hod, hz, hz', hv, hv'⟩ := hk H2 s1.heap o g1 g2
    have raw := raw_of I2 hx hod e2
    have I3 : Inv X pins σ H2 { s1 with heap := s1.heap.push { cls := .type "dict_values", data := .fields #[.ref a] } } := I2.kept (t' := s1.toks) fun b ob q => Heap.get?_push_of_some _ q
    have fin : wpAny (model X.prog X.w) X.A (pyIter (.ref s1.heap.objs.size)) (PIE X pins σ tg R) X.xe { s1 with heap := s1.heap.push { cls := .type "dict_values", data := .fields #[.ref a] } } := by
      refine wpAny_pyIter_values_raw (d := a) ⟨_, Heap.get?_push_size _ rfl, rfl, rfl⟩ (raw.at fun o' q => Heap.get?_push_of_some _ q) ?_
      exact pi_one (tk := s1.toks) I3 _ (turn_rv hx hod hz' hv' _) ⟨_, Heap.get?_push_size _ rfl, rfl, by simp⟩ q2
    exact ⟨raw.typeIs, fun b eb => by cases eb; exact ⟨o, g1, hx.2.1⟩, method_meetsIn F.slot_dict_values F.entry_dict_values rfl (PySem.evalArgs_none ⟨rfl, raw.typeIs, F.args_dict_values_1 _, _, meets_dict_values_raw a hs, ⟨es, ep, raw⟩, fin⟩)⟩
  rcases q with ⟨e1, mt, q⟩ | ⟨o, e1, q⟩
  · obtain ⟨o, I2⟩ := I1.lock e1 mt
    exact main o _ I2 upd_same (q o)
  · exact main o H1 I1 e1 q
/-! ### meanings -/
def pairsD (l : List (D × D)) : List D := l.map fun p => .tup [p.1, p.2]
def mDictI (f : List (D × D) → List D) (m : ME) : MI := fun F r M => (m F r M).bind fun d M1 => match d with
  | .obj j => match M1[j]? with
    | some (.dct _ l) => .ok (f l, none) (M1.set j (.dct true l))
    | some (.dks _ l) => .ok (f l, none) (M1.set j (.dks true l))
    | _ => .bad
  | _ => .bad
theorem dict_walk {n : Nat} {X : Cx} {wx : Ex → L2.St → Wd → Prop} {m : ME} {f : List (D × D) → List D} {s : L2.St} {H : Hp} {R : It → Hp → Prop} (It0 : Addr → Obj → HO → List V → List V → It)
    (hw : ∀ (W : Wd) (a : Addr) (o : Obj) (u : HO) (ks vs : List V) (l : List (D × D)), W.H a = some (.frz o u) → Fz W a → DRels (kb X) W (l.map (·.1)) ks → DRels (kb X) W (l.map (·.2)) vs → WalkOk (kb X) W none (f l) (It0 a o u ks vs))
    (w : rdI (kx X wx) (callF T n) (mDictI f m) s H R) : rdE (kx X wx) (callF T n) m s H fun x H1 => ∃ a u ks vs, x = .ref a ∧ DKV X.prog X.w a u ks vs ∧ ((H1 a = some u ∧ Mut (some u) ∧ ∀ o, R (It0 a o u ks vs) (upd H1 a (.frz o u))) ∨ ∃ o, H1 a = some (.frz o u) ∧ R (It0 a o u ks vs) H1) := by
  obtain ⟨mu, M, r, mr, sr, sat⟩ := w
  refine ⟨mu, M, r, mr, sr, ?_⟩
  unfold mDictI at sat
  cases e : m (callF T n) r M with
  | bad => rw [e] at sat; exact sat.elim
  | exc x M1 =>
    rw [e] at sat
    show Sat _ _ (m (callF T n) r M) _
    rw [e]
    exact sat
  | ok d M1 =>
    rw [e] at sat
    simp only [Res.bind_ok] at sat
    show Sat _ _ (m (callF T n) r M) _
    rw [e]
    intro W1 l1 m1 v dv
    cases d with
    | obj j =>
      simp only [DRel] at dv
      obtain ⟨a, rfl, ha⟩ := dv
      cases ej : M1[j]? with
      | none => simp only [ej] at sat; exact sat.elim
      | some o =>
        cases o with
        | ins _ l => simp only [ej] at sat; exact sat.elim
        | lst l => simp only [ej] at sat; exact sat.elim
        | dct lk l =>
          simp only [ej] at sat
          obtain ⟨xs, g1, g2, g3, g4, g5⟩ := m1.obj j a _ ha ej
          obtain ⟨vs, k1, k2, k3⟩ := dkv_t (a := a) g4 g5
          refine ⟨a, DctO (kb X).P (kb X).w a xs, _, vs, rfl, k1, lock_at m1 ha g1 (fun b => .dct b l) (fun W' lk' hl => ⟨xs, hl, g2, g3, g4, Paired.mapP g5 fun _ _ q => q.lk lk'⟩) (fun o H' => R (It0 a o (DctO (kb X).P (kb X).w a xs) (xs.map fun x => V.ref x.2.1) vs) H') (fun o W' l' m' e' fz => ?_) True.intro (fun hk => by subst hk; exact ej)⟩
          exact sat W' (l1.trans l') m' _ (hw W' a o _ _ _ l e' fz (DRels.le l' _ _ k2) (DRels.le l' _ _ k3))
        | dks lk l =>
          simp only [ej] at sat
          obtain ⟨kvs, g1, g2⟩ := m1.obj j a _ ha ej
          obtain ⟨k2, k3⟩ := drels_k g2
          refine ⟨a, .dK kvs, _, _, rfl, dkv_k, lock_at m1 ha g1 (fun b => .dks b l) (fun W' lk' hl => ⟨kvs, hl, Paired.mapP g2 fun _ _ q => q.lk lk'⟩) (fun o H' => R (It0 a o (.dK kvs) (kvs.map fun p => kV p.1) (kvs.map (·.2))) H') (fun o W' l' m' e' fz => ?_) True.intro (fun hk => by subst hk; exact ej)⟩
          exact sat W' (l1.trans l') m' _ (hw W' a o _ _ _ l e' fz (DRels.le l' _ _ k2) (DRels.le l' _ _ k3))
    | _ => exact sat.elim
theorem nsb {o : Expr} {a : Str} {env : Env} (h : (match o with | .Call (.Name _ _) [] [] _ => false | _ => true) = true) : attributeBase o a env (eval o env) = eval o env := by
  cases o <;> first | rfl | skip
  rename_i f args kws pos
  cases f <;> first | rfl | skip
  cases args <;> first | rfl | skip
  cases kws <;> first | rfl | cases h
def noSup : Expr → Bool
  | .Call (.Name _ _) [] [] _ => false
  | _ => true
theorem ok_iitems {l : Expr} {elts : List Expr} {kk : Nat} {tpos apos cpos : Pos} {m : ME} {x : Str} (hx : x = "items") (hb : noSup l = true) (hl : (apos.endLine == cpos.line) = true) (h : OkE T C l m) : OkI T C (.Tuple elts kk tpos) (.Call (.Attribute l x apos) [] [] cpos) (mDictI pairsD m) := by
  subst hx
  intro n X wx q
  refine PI.of (pi_items' (h n X wx q) (nsb hb) hl) fun s H R w => dict_walk (fun a o u ks vs => ItP a o u ks vs) (fun W a o u ks vs l e fz hk hv => ?_) w
  refine walk_pair walk_ri (fun W' l' => (l'.keep a _ e fz).1) (by rw [pairsD, List.length_map, ← hk.length, List.length_map]) fun i d v u' e1 e2 e3 => ?_
  rw [pairsD, List.getElem?_map] at e1
  obtain ⟨p, ep, e1⟩ := Option.map_eq_some_iff.mp e1
  obtain ⟨v1, h1, h2⟩ := hk.get (i := i) (d := p.1) (by rw [List.getElem?_map, ep]; rfl)
  obtain ⟨v2, h3, h4⟩ := hv.get (i := i) (d := p.2) (by rw [List.getElem?_map, ep]; rfl)
  rw [h1] at e2; rw [h3] at e3
  cases e2; cases e3
  exact ⟨p.1, p.2, e1.symm, h2, h4⟩
theorem ok_ivalues {l tg : Expr} {apos cpos : Pos} {m : ME} {x : Str} (hx : x = "values") (hb : noSup l = true) (hl : (apos.endLine == cpos.line) = true) (h : OkE T C l m) : OkI T C tg (.Call (.Attribute l x apos) [] [] cpos) (mDictI (fun l => l.map (·.2)) m) := by
  subst hx
  intro n X wx q
  refine PI.of (pi_values' (h n X wx q) (nsb hb) hl) fun s H R w => dict_walk (fun a o u ks vs => ItR a o u vs) (fun W a o u ks vs l e fz hk hv => ?_) w
  exact walk_at walk_rk (fun W' l' => (l'.keep a _ e fz).1) hv
end RI

set_option maxHeartbeats 4000000
namespace RI
open PySem PySem.Spec PyProof.Rows L2
open AutoSeq1 (wpAny_loadPart')
theorem tup_mul1 (l : Addr) (its : Array Value) (n : Nat) (dd : Option Addr) (sl : Array (Option Value)) (x : Int) (u : Tok) (h0 : (decide (x < -(2 ^ 63)) || decide (x ≥ 2 ^ 63)) = false) (h1 : (its.isEmpty || x == 1) = true) :
    Meets (Builtin.«tuple.__mul__» ⟨[.ref l, .int x u], []⟩) (fun _ R s => s.heap.get? l = some { cls := .type "tuple", dict := dd, data := .seq its n, slots := sl } ∧ R (.ok (.ret (Value.ref l))) s) :=
  .of_wp fun prog w A R s h => by
    obtain ⟨hp, g, d, tk, os⟩ := s
    obtain ⟨hl, h⟩ := h
    have f1 := AutoSeq1.idx_int
    wp_walk using wpAny_loadPart' hl
    refine wpAny_ite_false (decide_eq_false (by rw [h0]; simp)) ?_
    wp_walk using wpAny_loadPart' hl
    exact ⟨_, rfl, h⟩
theorem tup_mul0 (l : Addr) (its : Array Value) (n : Nat) (dd : Option Addr) (sl : Array (Option Value)) (x : Int) (u : Tok) (h0 : (decide (x < -(2 ^ 63)) || decide (x ≥ 2 ^ 63)) = false) (h1 : (its.isEmpty || x == 1) = false) (h2 : (decide (x ≤ 0) || its.isEmpty) = true) :
    Meets (Builtin.«tuple.__mul__» ⟨[.ref l, .int x u], []⟩) (fun _ R s => s.heap.get? l = some { cls := .type "tuple", dict := dd, data := .seq its n, slots := sl } ∧ R (.ok (.ret (Value.ref s.heap.objs.size))) { s with heap := s.heap.push { cls := Value.type "tuple", data := Data.seq #[] }, toks := s.toks }) :=
  .of_wp fun prog w A R s h => by
    obtain ⟨hp, g, d, tk, os⟩ := s
    obtain ⟨hl, h⟩ := h
    have f1 := AutoSeq1.idx_int
    wp_walk using wpAny_loadPart' hl
    repeat (first
      | (refine wpAny_ite_false (decide_eq_false (by rw [h0]; simp)) ?_; wp_walk using wpAny_loadPart' hl)
      | (refine wpAny_ite_false (decide_eq_false (by rw [h1]; simp)) ?_; wp_walk using wpAny_loadPart' hl)
      | (refine wpAny_ite_true (decide_eq_true h2) ?_; wp_walk using wpAny_loadPart' hl))
    exact ⟨_, rfl, h⟩
/-- tuple * int, any small number -/
def rRepA (K : PySem.W.Frag) : R2 := fun x y H Q => ∃ l k xs, x = .ref l ∧ y = .int k ∧ SqT K H l xs ∧ -1000 ≤ k ∧ k ≤ 1000 ∧ xs.length ≤ 1000 ∧ (((xs = [] ∨ k = 1) ∧ Q (.ref l) H) ∨ (xs ≠ [] ∧ k ≠ 1 ∧ ∀ p, H p = none → Q (.ref p) (upd H p (.tup (List.replicate k.toNat xs).flatten))))
theorem op_repA {X : Cx} : OpR X (binaryOp .Mult) (rRepA X.K) := by
  intro pins s σ H x y v u Q I rx ry h
  obtain ⟨l, k, xs, rfl, rfl, hT, k1, k2, hz, q⟩ := h
  have h0 : (decide (k < -(2 ^ 63)) || decide (k ≥ 2 ^ 63)) = false := by
    simp only [decide_eq_false (show ¬ k < -(2 ^ 63) by omega), decide_eq_false (show ¬ k ≥ 2 ^ 63 by omega), Bool.or_self]
  rcases q with ⟨hc, q⟩ | ⟨hne, hk, q⟩
  · cases rx
    obtain ⟨t, rfl⟩ := ry
    obtain ⟨its, r, ⟨⟨cls, dd, data, sl⟩, ho, hcl, n, hd⟩, hs⟩ := I.tuple hT
    simp only at hcl hd
    subst hcl hd
    have h1 : (its.toArray.isEmpty || k == 1) = true := by
      rcases hc with rfl | rfl
      · cases r; rfl
      · simp
    refine wpAny_binaryOp_repeat_ref (T := "tuple") (U := "int") (by decide) ⟨_, ho, rfl⟩ (fun z => typeIs_int z k t) noFill_tuple_mul F.fills_int_mul F.slot_int_rmul repeat_tuple F.slot_int_index.lookup
      (call_meets F.slot_int_rmul (typeIs_int s k t) F.entry_int_rmul (F.args_int_rmul_2 _ _) (int_rmul_tuple k t l its.toArray n dd sl) ⟨ho, rfl, ⟨_, ho, rfl⟩, call_meets F.slot_tuple_mul ⟨_, ho, rfl⟩ F.entry_tuple_mul (F.args_tuple_mul_2 _ _) (tup_mul1 l its.toArray n dd sl k t h0 h1) ⟨ho, ?_⟩⟩)
    exact ⟨.ref l, H, I, rfl, q⟩
  · by_cases hk2 : 2 ≤ k
    · exact op_repT pins s σ H _ _ v u Q I rx ry ⟨l, k, xs, rfl, rfl, hT, hne, hk2, k2, hz, q⟩
    · cases rx
      obtain ⟨t, rfl⟩ := ry
      obtain ⟨its, r, ⟨⟨cls, dd, data, sl⟩, ho, hcl, n, hd⟩, hs⟩ := I.tuple hT
      simp only at hcl hd
      subst hcl hd
      have hi : its.toArray.isEmpty = false := by
        cases its with
        | nil => cases r; exact absurd rfl hne
        | cons a b => rfl
      have h1 : (its.toArray.isEmpty || k == 1) = false := by
        rw [hi, Bool.false_or]; exact beq_eq_false_iff_ne.mpr hk
      have h2 : (decide (k ≤ 0) || its.toArray.isEmpty) = true := by
        rw [decide_eq_true (by omega)]; rfl
      have e0 : k.toNat = 0 := by omega
      refine wpAny_binaryOp_repeat_ref (T := "tuple") (U := "int") (by decide) ⟨_, ho, rfl⟩ (fun z => typeIs_int z k t) noFill_tuple_mul F.fills_int_mul F.slot_int_rmul repeat_tuple F.slot_int_index.lookup
        (call_meets F.slot_int_rmul (typeIs_int s k t) F.entry_int_rmul (F.args_int_rmul_2 _ _) (int_rmul_tuple k t l its.toArray n dd sl) ⟨ho, rfl, ⟨_, ho, rfl⟩, call_meets F.slot_tuple_mul ⟨_, ho, rfl⟩ F.entry_tuple_mul (F.args_tuple_mul_2 _ _) (tup_mul0 l its.toArray n dd sl k t h0 h1 h2) ⟨ho, ?_⟩⟩)
      rw [e0] at q
      exact ⟨.ref s.heap.objs.size, _, I.laid (t' := s.toks) (o := .tup []) (fun b ob q => Heap.get?_push_of_some _ q) (Nat.le_refl _) ⟨Nat.zero_le _, [], .nil, IsTup.new _ _⟩, rfl, q _ (I.hok.fresh (Nat.le_refl _))⟩
variable {T : Tb} {C : CC}
/-- [..] * int -/
def repD (l : List D) (k : Int) : List D := (List.replicate k.toNat l).flatten
theorem DRels.rep {K : Kb} {W : Wd} {l : List D} {xs : List V} (h : DRels K W l xs) : ∀ k : Nat, DRels K W (List.replicate k l).flatten (List.replicate k xs).flatten
  | 0 => rfl
  | k + 1 => by
    simp only [List.replicate_succ, List.flatten_cons]
    exact DRels.append h (DRels.rep h k)
def repOk (n : Nat) (k : Int) : Bool := decide (-1000 ≤ k) && decide (k ≤ 1000) && Nat.ble n 1000
def mLMul (ms : MA) (m : ME) : ME := fun F r M => (ms F r M).bind fun ds M1 => if ds.length ≤ LIM then (m F r M1).bind fun d M2 => (match d with
  | .int k => if repOk ds.length k = true then .ok (.lst (repD ds k)) M2 else .bad
  | _ => .bad) else .bad
theorem ok_lmul {es : List Expr} {e : Expr} {p pos : Pos} {ms : MA} {m : ME} (h1 : OkA T C es ms) (h2 : OkE T C e m) : OkE T C (.BinOp (.List es p) .Mult e pos) (mLMul ms m) := by
  intro n X wx h
  refine PE.of (pe_op op_rep (pe_lst (h1 n X wx h)) (h2 n X wx h)) fun s H Q q => ?_
  obtain ⟨mu, M, r, mr, sr, sat⟩ := q
  refine ⟨mu, M, r, mr, sr, sat.bind.imp fun ds M1 W1 l1 m1 s1 vs dvs => ?_⟩
  obtain ⟨hl, s1⟩ := sat_ite s1
  refine ⟨by rw [← dvs.length, ← lim_eq]; exact hl, fun p hp => ?_⟩
  obtain ⟨l2, m2⟩ := m1.laid hp (.lst vs)
  have fz : Fz ⟨upd W1.H p (.lst vs), W1.mu⟩ p := m1.fresh hp
  refine ⟨W1.mu, M1, r, m2, (sr.le l1).le l2, (Sat.le s1 l2).bind.imp fun d M2 W2 l3 m3 s2 v dv => ?_⟩
  have hp2 := (l3.keep p _ upd_same fz).1
  cases d with
  | int k =>
    cases (show v = _ from dv)
    obtain ⟨hc, s2⟩ := sat_ite s2
    simp only [repOk, Bool.and_eq_true, decide_eq_true_eq] at hc
    have hn := Nat.le_of_ble_eq_true hc.2
    rw [dvs.length] at hn
    have hm : vs.length * k.toNat ≤ 1000 * 1000 := Nat.mul_le_mul hn (by omega)
    refine ⟨p, k, vs, rfl, rfl, hp2, by omega, by omega, by rw [sizeLine_eq]; omega, fun p2 h2 => ?_⟩
    exact new_lst (K := (kx X wx).at s) m3 (DRels.rep (DRels.le (l2.trans l3) ds vs dvs) k.toNat) s2 h2
  | _ => exact s2.elim
/-- * of numbers, of a tuple and a number -/
def mulT : D → D → Mem → Res D
  | .tup l, .int k, M => if repOk l.length k = true then .ok (.tup (repD l k)) M else .bad
  | x, y, M => mulD x y M
theorem or_mulT {X : Cx} : OpR X (binaryOp .Mult) (rB (kb X) mulT) := by
  intro pins s σ H x y v u Q I rx ry h
  obtain ⟨mu, M, dx, dy, mr, hx, hy, sat⟩ := h
  unfold mulT at sat
  split at sat
  · rename_i l k
    obtain ⟨hc, sat⟩ := sat_ite sat
    simp only [repOk, Bool.and_eq_true, decide_eq_true_eq] at hc
    have hn := Nat.le_of_ble_eq_true hc.2
    cases (show y = _ from hy)
    have hx0 := hx
    simp only [DRel] at hx
    obtain ⟨a, xs, rfl, t, dr⟩ := hx
    rw [dr.length] at hn
    refine op_repA pins s σ H _ _ v u Q I rx ry ⟨a, k, xs, rfl, rfl, t.sq, by omega, by omega, hn, ?_⟩
    by_cases hk : xs = [] ∨ k = 1
    · refine .inl ⟨hk, sat.ok mr _ ?_⟩
      have : repD l k = l := by
        rcases hk with rfl | rfl
        · have : l = [] := List.eq_nil_of_length_eq_zero dr.length
          subst this
          simp [repD]
        · simp [repD]
      rw [this]
      exact hx0
    · simp only [not_or] at hk
      exact .inr ⟨hk.1, hk.2, fun p hp => new_tup (K := (kb X).no) mr (DRels.rep dr k.toNat) sat hp⟩
  · exact or_mul pins s σ H x y v u Q I rx ry ⟨mu, M, dx, dy, mr, hx, hy, sat⟩
/-! ### stars in displays -/
def mStar (m : ME) (ms : MA) : MA := fun F r M => (m F r M).bind fun d M1 => match seqD M1 d with
  | some l => (match d with
    | .obj _ => .bad
    | _ => (ms F r M1).bind fun ds M2 => .ok (l ++ ds) M2)
  | none => .bad
theorem ok_astar {e : Expr} {p : Pos} {es : List Expr} {m : ME} {ms : MA} (h1 : OkE T C e m) (h2 : OkA T C es ms) : OkA T C (.Starred e p :: es) (mStar m ms) := by
  intro n X wx h
  refine PA.of (StX.pa_star (h1 n X wx h) (h2 n X wx h)) fun s H Q q => ?_
  obtain ⟨mu, M, r, mr, sr, sat⟩ := q
  refine ⟨mu, M, r, mr, sr, sat.bind.imp fun d M1 W1 l1 m1 s1 v dv => ?_⟩
  cases e1 : seqD M1 d with
  | none => rw [e1] at s1; exact s1.elim
  | some l =>
    rw [e1] at s1
    obtain ⟨a, xs, rfl, q, dr⟩ := seqD_at m1 e1 dv
    refine ⟨a, xs, rfl, q.symm, ?_⟩
    have s1' : Sat ((kx X wx).at s) W1 ((ms (callF T n) r M1).bind fun ds M2 => .ok (l ++ ds) M2) (PVs (kb X) Q) := by
      cases d with
      | obj _ => exact s1.elim
      | _ => exact s1
    refine ⟨W1.mu, M1, r, m1, sr.le l1, s1'.bind.imp fun ds M2 W2 l2 m2 s2 vs dvs => ?_⟩
    exact s2.ok m2 _ (DRels.append (DRels.le l2 l xs dr) dvs)
end RI

set_option maxHeartbeats 4000000
namespace RI
open PySem PySem.Spec PyProof.Rows L2
variable {T : Tb} {C : CC}
/-! ### all, any, sum of lists -/
def blsD : List D → Option (List Bool)
  | [] => some []
  | .bl b :: l => (blsD l).map (b :: ·)
  | _ => none
def intsD : List D → Option (List Int)
  | [] => some []
  | .int b :: l => (intsD l).map (b :: ·)
  | _ => none
theorem bls_rel {K : Kb} {W : Wd} : ∀ {l : List D} {bs : List Bool} {xs : List V}, blsD l = some bs → DRels K W l xs → xs = bs.map V.bl
  | [], bs, xs, h, r => by cases h; exact r
  | d :: l, bs, xs, h, r => by
    cases d with
    | bl b =>
      simp only [blsD, Option.map_eq_some_iff] at h
      obtain ⟨bs', h1, rfl⟩ := h
      obtain ⟨v, ys, rfl, hv, hr⟩ := r
      cases (show v = _ from hv)
      rw [bls_rel h1 hr]; rfl
    | _ => cases h
theorem ints_relD {K : Kb} {W : Wd} : ∀ {l : List D} {ns : List Int} {xs : List V}, intsD l = some ns → DRels K W l xs → xs = ns.map V.int
  | [], bs, xs, h, r => by cases h; exact r
  | d :: l, bs, xs, h, r => by
    cases d with
    | int b =>
      simp only [intsD, Option.map_eq_some_iff] at h
      obtain ⟨bs', h1, rfl⟩ := h
      obtain ⟨v, ys, rfl, hv, hr⟩ := r
      cases (show v = _ from hv)
      rw [ints_relD h1 hr]; rfl
    | _ => cases h
def allD (ds : List D) (M : Mem) : Res D := match ds with
  | [d] => (match (lstD M d).bind blsD with | some bs => .ok (.bl (bs.all id)) M | none => .bad)
  | _ => .bad
def anyD (ds : List D) (M : Mem) : Res D := match ds with
  | [d] => (match (lstD M d).bind blsD with | some bs => .ok (.bl (bs.any id)) M | none => .bad)
  | _ => .bad
def sumD (ds : List D) (M : Mem) : Res D := match ds with
  | [d] => (match (lstD M d).bind intsD with | some ns => .ok (.int ns.sum) M | none => .bad)
  | _ => .bad
theorem cr_allD {X : Cx} (hc : X.calm = true) : CallR X (.builtin "all") (rC (kb X) allD) := by
  intro pins s σ H xs us Q I r h
  obtain ⟨mu, M, ds, mr, dr, sat⟩ := h
  unfold allD at sat
  split at sat
  · obtain ⟨v, rfl, dv⟩ := rels1 dr
    split at sat
    · rename_i bs e
      obtain ⟨l, e1, e2⟩ := Option.bind_eq_some_iff.mp e
      obtain ⟨a, ys, rfl, q, r1⟩ := lstD_at mr e1 dv
      exact cr_all hc pins s σ H _ us Q I r ⟨a, bs, rfl, by rw [← bls_rel e2 r1]; exact q, sat.ok mr _ rfl⟩
    · exact sat.elim
  · exact sat.elim
theorem cr_anyD {X : Cx} (hc : X.calm = true) : CallR X (.builtin "any") (rC (kb X) anyD) := by
  intro pins s σ H xs us Q I r h
  obtain ⟨mu, M, ds, mr, dr, sat⟩ := h
  unfold anyD at sat
  split at sat
  · obtain ⟨v, rfl, dv⟩ := rels1 dr
    split at sat
    · rename_i bs e
      obtain ⟨l, e1, e2⟩ := Option.bind_eq_some_iff.mp e
      obtain ⟨a, ys, rfl, q, r1⟩ := lstD_at mr e1 dv
      exact cr_any hc pins s σ H _ us Q I r ⟨a, bs, rfl, by rw [← bls_rel e2 r1]; exact q, sat.ok mr _ rfl⟩
    · exact sat.elim
  · exact sat.elim
theorem cr_sumD {X : Cx} (hc : X.calm = true) : CallR X (.builtin "sum") (rC (kb X) sumD) := by
  intro pins s σ H xs us Q I r h
  obtain ⟨mu, M, ds, mr, dr, sat⟩ := h
  unfold sumD at sat
  split at sat
  · obtain ⟨v, rfl, dv⟩ := rels1 dr
    split at sat
    · rename_i bs e
      obtain ⟨l, e1, e2⟩ := Option.bind_eq_some_iff.mp e
      obtain ⟨a, ys, rfl, q, r1⟩ := lstD_at mr e1 dv
      exact cr_sum hc pins s σ H _ us Q I r ⟨a, bs, rfl, by rw [← ints_relD e2 r1]; exact q, sat.ok mr _ rfl⟩
    · exact sat.elim
  · exact sat.elim
/-! ### str(int) -/
def numS (i : Int) : List Nat := (toString i : Str).cps.toList
theorem numS_eq (i : Int) : (⟨(numS i).toArray⟩ : Str) = (toString i : Str) := by simp [numS]
def toStrD (ds : List D) (M : Mem) : Res D := match ds with
  | [.int i] => if Nat.ble i.natAbs 1000000000000000000 = true then .ok (.str (numS i)) M else .bad
  | _ => .bad
theorem log_ok {i : Int} (h : Nat.ble i.natAbs 1000000000000000000 = true) : i.natAbs.log2 < 1920 := by
  have h1 := Nat.le_of_ble_eq_true h
  by_cases h0 : i.natAbs = 0
  · rw [h0]; decide
  · rw [Nat.log2_lt h0]
    exact Nat.lt_of_le_of_lt h1 (by decide +kernel)
theorem cr_str {X : Cx} : CallR X (.type "str") (rC (kb X) toStrD) := by
  intro pins s σ H xs us Q I r h
  obtain ⟨mu, M, ds, mr, dr, sat⟩ := h
  unfold toStrD at sat
  split at sat
  · rename_i i
    obtain ⟨hc, sat⟩ := sat_ite sat
    obtain ⟨v, rfl, dv⟩ := rels1 dr
    cases (show v = _ from dv)
    exact call_str_int pins s σ H _ us Q I r ⟨i, rfl, log_ok hc, sat.ok mr _ (by show _ = _; rw [numS_eq])⟩
  · exact sat.elim
end RI

set_option maxHeartbeats 4000000
namespace RI
open PySem PySem.Spec PyProof.Rows L2
variable {T : Tb} {C : CC}
/-! ### data told apart -/
mutual
theorem toP_inj : ∀ a b : D, D.noObj a = true → D.noObj b = true → D.toP a = D.toP b → a = b
  | .non, b, _, hb, h => by cases b <;> simp_all [D.toP, D.noObj]
  | .bl x, b, _, hb, h => by cases b <;> simp_all [D.toP, D.noObj]
  | .int x, b, _, hb, h => by cases b <;> simp_all [D.toP, D.noObj]
  | .str x, b, _, hb, h => by cases b <;> simp_all [D.toP, D.noObj]
  | .tup x, b, ha, hb, h => by
    cases b with
    | tup y => simp only [D.toP, PyData.tuple.injEq] at h; rw [toPs_inj x y ha hb h]
    | _ => simp_all [D.toP, D.noObj]
  | .lst x, b, ha, hb, h => by
    cases b with
    | lst y => simp only [D.toP, PyData.list.injEq] at h; rw [toPs_inj x y ha hb h]
    | _ => simp_all [D.toP, D.noObj]
  | .obj x, b, ha, _, _ => by simp [D.noObj] at ha
  | .exn _ _ _, b, ha, _, _ => by simp [D.noObj] at ha
  | .ins _ _ _, b, ha, _, _ => by simp [D.noObj] at ha
theorem toPs_inj : ∀ a b : List D, D.noObjs a = true → D.noObjs b = true → D.toPs a = D.toPs b → a = b
  | [], [], _, _, _ => rfl
  | [], y :: b, _, _, h => by simp [D.toPs] at h
  | x :: a, [], _, _, h => by simp [D.toPs] at h
  | x :: a, y :: b, ha, hb, h => by
    simp only [D.noObjs, Bool.and_eq_true] at ha hb
    simp only [D.toPs, List.cons.injEq] at h
    rw [toP_inj x y ha.1 hb.1 h.1, toPs_inj a b ha.2 hb.2 h.2]
end
theorem toPs_get : ∀ (l : List D) (i : Nat), (D.toPs l)[i]? = l[i]?.map D.toP
  | [], i => by simp [D.toPs]
  | d :: l, 0 => by simp [D.toPs]
  | d :: l, i + 1 => by simp [D.toPs, toPs_get l i]
theorem toPs_eq : ∀ l : List D, D.toPs l = l.map D.toP
  | [] => rfl
  | d :: l => by simp only [D.toPs, List.map_cons, toPs_eq l]
theorem noObjs_mem {l : List D} (h : D.noObjs l = true) {d : D} (hd : d ∈ l) : D.noObj d = true := by
  induction l with
  | nil => cases hd
  | cons x l ih =>
    simp only [D.noObjs, Bool.and_eq_true] at h
    rcases List.mem_cons.mp hd with rfl | hd
    · exact h.1
    · exact ih h.2 hd
/-- all of one kind, place by place -/
def alkD (l : List D) : Bool := (D.toPs l).all fun x => (D.toPs l).all fun y => PySem.W.alike x y
def ltDD (a b : D) : Bool := PySem.W.dataLt (D.toP a) (D.toP b)
/-- what can be ordered: data of one kind, not None, not deep -/
def ordL (l : List D) : Bool := D.noObjs l && alkD l && l.all D.noN && Nat.ble (PyData.depthAll (D.toPs l)) 60
theorem ordL_all {l : List D} (h : ordL l = true) : D.noObjs l = true ∧ PySem.W.AlikeAll (D.toPs l) ∧ PyData.depthAll (D.toPs l) ≤ 60 := by
  simp only [ordL, Bool.and_eq_true] at h
  obtain ⟨⟨⟨h1, h2⟩, h3⟩, h4⟩ := h
  refine ⟨h1, ⟨fun x hx y hy => ?_, fun x hx => ?_⟩, Nat.le_of_ble_eq_true h4⟩
  · exact List.all_eq_true.mp (List.all_eq_true.mp h2 x hx) y hy
  · rw [toPs_eq] at hx
    obtain ⟨d, hd, rfl⟩ := List.mem_map.mp hx
    exact noN_ne (List.all_eq_true.mp h3 d hd) (noObjs_mem h1 hd)
def minL (x : D) (l : List D) : D := l.foldl (fun a y => if ltDD y a then y else a) x
def maxL (x : D) (l : List D) : D := l.foldl (fun a y => if ltDD a y then y else a) x
theorem minL_toP : ∀ (l : List D) (x : D), D.toP (minL x l) = PySem.W.minD (D.toP x) (D.toPs l)
  | [], x => rfl
  | y :: l, x => by
    have ih := minL_toP l (if ltDD y x then y else x)
    simp only [minL, PySem.W.minD, D.toPs, List.foldl_cons] at ih ⊢
    rw [ih]
    congr 1
    unfold ltDD
    split <;> rfl
theorem maxL_toP : ∀ (l : List D) (x : D), D.toP (maxL x l) = PySem.W.maxD (D.toP x) (D.toPs l)
  | [], x => rfl
  | y :: l, x => by
    have ih := maxL_toP l (if ltDD x y then y else x)
    simp only [maxL, PySem.W.maxD, D.toPs, List.foldl_cons] at ih ⊢
    rw [ih]
    congr 1
    unfold ltDD
    split <;> rfl
theorem minL_mem : ∀ (l : List D) (x : D), minL x l ∈ x :: l
  | [], x => List.mem_cons_self
  | y :: l, x => by
    have ih := minL_mem l (if ltDD y x then y else x)
    simp only [minL, List.foldl_cons] at ih ⊢
    rcases List.mem_cons.mp ih with h | h
    · rw [h]; split <;> simp
    · exact List.mem_cons_of_mem _ (List.mem_cons_of_mem _ h)
theorem maxL_mem : ∀ (l : List D) (x : D), maxL x l ∈ x :: l
  | [], x => List.mem_cons_self
  | y :: l, x => by
    have ih := maxL_mem l (if ltDD x y then y else x)
    simp only [maxL, List.foldl_cons] at ih ⊢
    rcases List.mem_cons.mp ih with h | h
    · rw [h]; split <;> simp
    · exact List.mem_cons_of_mem _ (List.mem_cons_of_mem _ h)
/-- the item that reads as d is d -/
theorem item_is {X : Cx} {pins : List (Addr × Obj)} {σ : L2.St} {H : Hp} {s : Shared} {mu : Mu} (I : Inv X pins σ H s) {l : List D} {xs : List V} {us : List Value} (hn : D.noObjs l = true) (ha : PySem.W.AlikeAll (D.toPs l)) (dr : DRels (kb X) ⟨H, mu⟩ l xs) (rv : Vals xs us) {i : Nat} {v : Value} (hv : us[i]? = some v) {h' : Heap} {bs : List Addr} {d : D} (hd : d ∈ l) (r : Reads h' v (D.toP d) bs) (hk : ∀ b o, s.heap.get? b = some o → h'.get? b = some o) : ∃ x, DRel (kb X) ⟨H, mu⟩ d x ∧ RelV x v := by
  have hl1 := dr.length
  have hl2 := rv.length
  have hi : i < us.length := by
    by_cases q : i < us.length
    · exact q
    · rw [List.getElem?_eq_none (by omega)] at hv; cases hv
  have h1 : l[i]? = some (l[i]'(by omega)) := List.getElem?_eq_getElem _
  obtain ⟨x, hx, dx⟩ := dr.get h1
  have rx : RelV x v := by
    have key : ∀ {xs : List V} {us : List Value}, Vals xs us → ∀ (i : Nat) (x : V) (v : Value), xs[i]? = some x → us[i]? = some v → RelV x v := by
      intro xs us p
      induction p with
      | nil => intro i x v e; simp at e
      | cons r t ih =>
        intro i x v e1 e2
        cases i with
        | zero => simp at e1 e2; subst e1; subst e2; exact r
        | succ i => exact ih i x v (by simpa using e1) (by simpa using e2)
    exact key rv i x v hx hv
  have hm : l[i]'(by omega) ∈ l := List.getElem_mem _
  obtain ⟨as, r2⟩ := Dp.reads I _ x v (D.dp _ x (noObjs_mem hn hm) dx) rx
  have e := PySem.W.alike_unique (D.toP d) (D.toP (l[i]'(by omega))) v _ _ (ha.1 _ (by rw [toPs_eq]; exact List.mem_map.mpr ⟨d, hd, rfl⟩) _ (by rw [toPs_eq]; exact List.mem_map.mpr ⟨_, hm, rfl⟩)) r (PySem.W.reads_keeps hk r2)
  rw [toP_inj _ _ (noObjs_mem hn hd) (noObjs_mem hn hm) e]
  exact ⟨x, dx, rx⟩
def minLD (ds : List D) (M : Mem) : Res D := match ds with
  | [d] => (match lstD M d with | some (x :: l) => if ordL (x :: l) = true then .ok (minL x l) M else .bad | _ => .bad)
  | _ => min2D ds M
def maxLD (ds : List D) (M : Mem) : Res D := match ds with
  | [d] => (match lstD M d with | some (x :: l) => if ordL (x :: l) = true then .ok (maxL x l) M else .bad | _ => .bad)
  | _ => max2D ds M
theorem cr_minL {X : Cx} (hc : X.calm = true) (hu : X.A.units + 65 < cLine) : CallR X (.builtin "min") (rC (kb X) minLD) := by
  intro pins s σ H xs us Q I r h
  obtain ⟨mu, M, ds, mr, dr, sat⟩ := h
  unfold minLD at sat
  split at sat
  · obtain ⟨v, rfl, dv⟩ := rels1 dr
    split at sat
    · rename_i x l e
      obtain ⟨ho, sat⟩ := sat_ite sat
      obtain ⟨h1, h2, h3⟩ := ordL_all ho
      obtain ⟨a, ys, rfl, q, r1⟩ := lstD_at mr e dv
      obtain ⟨its, rv, pl, _⟩ := I.list q
      obtain ⟨as, rd⟩ := Dp.readsAll I _ ys its (D.dps _ ys h1 r1) rv
      obtain rfl := Vals.ref1 r
      refine PySem.W.min_list_data (I.ok.hd hc) pl.isList (by simpa [D.toPs] using rd) h2 (by simp only [D.toPs] at h3; omega) fun i v h' tk bs hv hr hk => ?_
      rw [← minL_toP l x] at hr
      obtain ⟨z, dz, rz⟩ := item_is I h1 h2 r1 rv (by simpa using hv) (minL_mem l x) hr hk
      exact ⟨z, H, I.kept hk, rz, sat.ok mr _ dz⟩
    · exact sat.elim
  · exact cr_min2 hc pins s σ H xs us Q I r ⟨mu, M, ds, mr, dr, sat⟩
theorem cr_maxL {X : Cx} (hc : X.calm = true) (hu : X.A.units + 65 < cLine) : CallR X (.builtin "max") (rC (kb X) maxLD) := by
  intro pins s σ H xs us Q I r h
  obtain ⟨mu, M, ds, mr, dr, sat⟩ := h
  unfold maxLD at sat
  split at sat
  · obtain ⟨v, rfl, dv⟩ := rels1 dr
    split at sat
    · rename_i x l e
      obtain ⟨ho, sat⟩ := sat_ite sat
      obtain ⟨h1, h2, h3⟩ := ordL_all ho
      obtain ⟨a, ys, rfl, q, r1⟩ := lstD_at mr e dv
      obtain ⟨its, rv, pl, _⟩ := I.list q
      obtain ⟨as, rd⟩ := Dp.readsAll I _ ys its (D.dps _ ys h1 r1) rv
      obtain rfl := Vals.ref1 r
      refine PySem.W.max_list_data (I.ok.hd hc) pl.isList (by simpa [D.toPs] using rd) h2 (by simp only [D.toPs] at h3; omega) fun i v h' tk bs hv hr hk => ?_
      rw [← maxL_toP l x] at hr
      obtain ⟨z, dz, rz⟩ := item_is I h1 h2 r1 rv (by simpa using hv) (maxL_mem l x) hr hk
      exact ⟨z, H, I.kept hk, rz, sat.ok mr _ dz⟩
    · exact sat.elim
  · exact cr_max2 hc pins s σ H xs us Q I r ⟨mu, M, ds, mr, dr, sat⟩
/-! ### sorted(list) -/
def leDD (a b : D) : Bool := !ltDD b a
def srtL (l : List D) : List D := l.mergeSort leDD
/-- all are tuples with an item, or none is a tuple -/
def sbl (l : List D) : Bool := (l.all fun d => match d with | .tup (_ :: _) => true | _ => false) || l.all fun d => match d with | .tup _ => false | _ => true
def srtD (ds : List D) (M : Mem) : Res D := match ds with
  | [d] => (match seqD M d with | some l => if (ordL l && sbl l) = true then .ok (.lst (srtL l)) M else .bad | none => .bad)
  | _ => .bad
theorem each_of {K : Kb} {W : Wd} : ∀ {l : List D} {xs : List V} {us : List Value}, DRels K W l xs → Vals xs us → PySem.W.EachIs (fun u d => ∃ x, RelV x u ∧ DRel K W d x) us l
  | [], xs, us, h, r => by
    cases (show xs = [] from h); cases r; exact .nil
  | d :: l, xs, us, h, r => by
    obtain ⟨v, ys, rfl, hv, hr⟩ := h
    cases r with
    | cons r1 r2 => exact .cons ⟨v, r1, hv⟩ (each_of hr r2)
theorem of_each {K : Kb} {W : Wd} {us : List Value} {l : List D} (h : PySem.W.EachIs (fun u d => ∃ x, RelV x u ∧ DRel K W d x) us l) : ∃ xs, Vals xs us ∧ DRels K W l xs := by
  induction h with
  | nil => exact ⟨[], .nil, rfl⟩
  | cons h1 _ ih =>
    obtain ⟨xs, r, d⟩ := ih
    obtain ⟨x, rx, dx⟩ := h1
    exact ⟨x :: xs, .cons rx r, ⟨x, xs, rfl, dx, d⟩⟩
theorem sbl_ok {l : List D} (h : sbl l = true) (hN : PySem.W.AlikeAll (D.toPs l)) : PySem.W.Sortable (D.toPs l) := by
  simp only [sbl, Bool.or_eq_true] at h
  rcases h with h | h
  · refine .inl fun p hp => ?_
    rw [toPs_eq] at hp
    obtain ⟨d, hd, rfl⟩ := List.mem_map.mp hp
    have := List.all_eq_true.mp h d hd
    cases d with
    | tup l => cases l with
      | nil => cases this
      | cons x r => exact ⟨_, _, rfl⟩
    | _ => cases this
  · refine .inr fun p hp => ⟨hN.2 p hp, fun xs e => ?_⟩
    rw [toPs_eq] at hp
    obtain ⟨d, hd, rfl⟩ := List.mem_map.mp hp
    have := List.all_eq_true.mp h d hd
    cases d with
    | tup l => cases this
    | _ => simp [D.toP] at e
theorem depth_mem {l : List PyData} {p : PyData} (h : p ∈ l) : p.depth ≤ PyData.depthAll l := by
  induction l with
  | nil => cases h
  | cons x l ih =>
    simp only [PyData.depthAll]
    rcases List.mem_cons.mp h with rfl | h
    · omega
    · have := ih h; omega
theorem each_imp {α β : Type} {R R' : α → β → Prop} {as : List α} {bs : List β} (h : PySem.W.EachIs R as bs) (f : ∀ a b, b ∈ bs → R a b → R' a b) : PySem.W.EachIs R' as bs := by
  induction h with
  | nil => exact .nil
  | cons h1 _ ih => exact .cons (f _ _ List.mem_cons_self h1) (ih fun a b hb => f a b (List.mem_cons_of_mem _ hb))
theorem each_map {α β γ : Type} {R : α → γ → Prop} {g : β → γ} {as : List α} {bs : List β} (h : PySem.W.EachIs (fun a b => R a (g b)) as bs) : PySem.W.EachIs R as (bs.map g) := by
  induction h with
  | nil => exact .nil
  | cons h1 _ ih => exact .cons h1 ih
section
open PySem.W
variable {prog : Program} {w : World} {A : Around} {E : Value → Shared → Prop} {s : Shared}
/-- a list or a tuple stands at l -/
def SeqAt (h : Heap) (l : Addr) (vs : List Value) : Prop := ∃ o n, h.get? l = some o ∧ (o.cls = .type "list" ∨ o.cls = .type "tuple") ∧ o.data = .seq vs.toArray n
theorem gather {l : Addr} {vs : List Value} {Q : List Value → Shared → Prop} (hl : SeqAt s.heap l vs) (hz : vs.length ≤ sizeLine)
    (h : Q vs { s with heap := (s.heap.push (seqObj "list" #[] 0)).update s.heap.objs.size (Obj.mapSeq (· ++ vs.toArray)) }) : wpAny (model prog w) A (collect (.ref l)) Q E s := by
  obtain ⟨o, n, ho, hc, hd⟩ := hl
  rcases hc with hc | hc
  · exact collect_list ⟨o, ho, hc, n, hd⟩ h hz
  have e0 := Heap.get?_push_of_some (seqObj "list" #[] 0) ho
  have e1 : (s.heap.push (seqObj "list" #[] 0)).get? s.heap.objs.size = some (seqObj "list" #[] 0) := Heap.get?_push_size _ rfl
  unfold collect
  refine wpAny_bind (wpAny_runValue (codeAny_builtin entry_proto_collect' ?step))
  case step =>
    change wpAny _ _ (do again (.builtin "list.__iadd__" ⟨[← newList [], .ref l], []⟩)) _ _ s
    refine wpAny_bind (wpAny_newList (wpAny_pure ⟨Code.quiet_builtin _ (by decide +kernel), codeAny_builtin entry_list_iadd' ?add⟩))
    case add =>
      change wpAny _ _ (Builtin.List.listExtendWith (.ref s.heap.objs.size) (.ref l) (.ref s.heap.objs.size)) _ _ { s with heap := s.heap.push (seqObj "list" #[] 0) }
      unfold Builtin.List.listExtendWith
      refine wpAny_bind (wpAny_typeOf (T := "tuple") ⟨o, e0, hc⟩ ?_)
      have tt : (Value.type "tuple" == Value.type "tuple") = true := by rfl
      rw [if_pos (by rw [tt]; simp)]
      refine wpAny_bind (listItems_at e0 hd (wpAny_bind (listItems_at (xs := #[]) (n := 0) e1 rfl ?_)))
      rw [if_neg (by simp)]
      refine wpAny_bind (listUpdate_at (xs := #[]) (n := 0) e1 rfl (wpAny_pure ?_) (Nat.zero_le _) (by simp only [Array.size_append, List.size_toArray, List.length_nil]; omega))
      refine wpAny_bind (wpAny_load (get?_update_seq e1 _) ?_)
      change wpAny _ _ (pure ((#[] : Array Value) ++ vs.toArray).toList) Q E _
      have : ((#[] : Array Value) ++ vs.toArray).toList = vs := by simp
      rw [this]
      exact wpAny_pure h
theorem sorted_seq {κ : KeyKind} {l : Addr} {vs : List Value} {Q : Value → Shared → Prop} (hl : SeqAt s.heap l vs) (S : SortsAt prog w A.in1.in1 { s with heap := sortingHeap (copyHeap s.heap vs) (s.heap.objs.size + 1) vs } κ vs) (hL : vs.length ≤ sizeLine)
    (h : Q (.ref (s.heap.objs.size + 1)) { s with heap := sortedAll s.heap vs (sortVals κ false vs vs).toArray }) : wpAny (model prog w) A (call (.builtin "sorted") [.ref l]) Q E s := by
  refine call_function_entry_kw kind_sorted plain_sorted entry_sorted (args_sorted1 _) ?_
  unfold Builtin.«sorted»
  refine wpAny_bind (m := checkCount "sorted" 1 1 _) (wpAny_pure (wpAny_bind (gather hl hL (wpAny_bind (wpAny_newList ?_ hL)))))
  have sz : (copyHeap s.heap vs).objs.size = s.heap.objs.size + 1 + 1 ∧ ((s.heap.push (seqObj "list" #[] 0)).update s.heap.objs.size (Obj.mapSeq (· ++ vs.toArray))).objs.size = s.heap.objs.size + 1 := ⟨by unfold copyHeap; rw [size_push', Heap.size_update, size_push'], by rw [Heap.size_update, size_push']⟩
  change wpAny _ _ _ _ _ { s with heap := copyHeap s.heap vs }
  rw [sz.2]
  refine wpAny_bind (wpAny_holding (wpAny_call_entry_kw slot_list_sort ⟨_, copyHeap_at s.heap vs, rfl⟩ entry_list_sort ?_ (args_list_sort _)))
  change wpAny (model prog w) A.in1.in1 (Builtin.«list.sort» ⟨[.ref (s.heap.objs.size + 1)], []⟩) _ _ _
  exact list_sort_vals (s := { s with heap := copyHeap s.heap vs }) (copyHeap_at s.heap vs) S hL ⟨_, rfl, wpAny_pure ⟨_, rfl, h⟩⟩
theorem seqAt_of {X : Cx} {pins : List (Addr × Obj)} {σ : L2.St} {H : Hp} (I : Inv X pins σ H s) {a : Addr} {xs : List V} (q : SqL X.K H a xs ∨ SqT X.K H a xs) : ∃ its : List Value, Vals xs its ∧ SeqAt s.heap a its ∧ xs.length ≤ sizeLine := by
  rcases q with q | q
  · obtain ⟨its, rv, pl, hz⟩ := I.list q
    obtain ⟨o, ho, hc, n, hd⟩ := pl.isList
    exact ⟨its, rv, ⟨o, n, ho, .inl hc, hd⟩, hz⟩
  · obtain ⟨its, rv, ⟨o, ho, hc, n, hd⟩, hz⟩ := I.tuple q
    exact ⟨its, rv, ⟨o, n, ho, .inr hc, hd⟩, hz⟩
end
theorem cr_sortedL {X : Cx} (hu : X.A.units + 70 < cLine) : CallR X (.builtin "sorted") (rC (kb X) srtD) := by
  intro pins s σ H xs us Q I r h
  obtain ⟨mu, M, ds, mr, dr, sat⟩ := h
  unfold srtD at sat
  split at sat
  · obtain ⟨v, rfl, dv⟩ := rels1 dr
    split at sat
    · rename_i l e
      obtain ⟨hc, sat⟩ := sat_ite sat
      simp only [Bool.and_eq_true] at hc
      obtain ⟨h1, h2, h3⟩ := ordL_all hc.1
      obtain ⟨a, ys, rfl, q, r1⟩ := seqD_at mr e dv
      obtain ⟨its, rv, pl, hz⟩ := seqAt_of I q
      obtain rfl := Vals.ref1 r
      have hL : its.length ≤ sizeLine := by rw [← rv.length]; exact hz
      have e0 := each_of r1 rv
      have rds : ∀ u d, d ∈ l → (∃ x, RelV x u ∧ DRel (kb X) ⟨H, mu⟩ d x) → ∃ as, Reads s.heap u (D.toP d) as := fun u d hd ⟨x, rx, dx⟩ => Dp.reads I _ x u (D.dp d x (noObjs_mem h1 hd) dx) rx
      have old : ∀ b o, s.heap.get? b = some o → (PySem.W.sortingHeap (PySem.W.copyHeap s.heap its) (s.heap.objs.size + 1) its).get? b = some o := fun b o eb => PySem.W.sorting_copy_old eb
      have eR : PySem.W.EachIs (fun u d => ∃ as, Reads (PySem.W.sortingHeap (PySem.W.copyHeap s.heap its) (s.heap.objs.size + 1) its) u d as) its (D.toPs l) := by
        rw [toPs_eq]
        exact each_map (each_imp e0 fun u d hd hx => by
          obtain ⟨as, ra⟩ := rds u d hd hx
          exact ⟨as, PySem.W.reads_keeps old ra⟩)
      have hal : PySem.W.AllAlike (D.toPs l) := fun d hd d' hd' => h2.1 d hd d' hd'
      refine sorted_seq pl (PySem.W.SortsAt.data (A := X.A.in1.in1) eR hal (sbl_ok hc.2 h2) (fun d hd => ?_)) hL ?_
      · have := depth_mem hd
        show X.A.units + 1 + 1 + _ < _
        omega
      · have eS := PySem.W.sortVals_each (rev := false) (κ := PySem.W.dataKind (PySem.W.sortingHeap (PySem.W.copyHeap s.heap its) (s.heap.objs.size + 1) its) (D.toPs l)) (fun d : D => PySem.W.keyToks (D.toP d)) e0 (each_imp e0 fun u d hd hx => by
          obtain ⟨as, ra⟩ := rds u d hd hx
          exact PySem.W.dataKind_some hal (by rw [toPs_eq]; exact List.mem_map.mpr ⟨d, hd, rfl⟩) (PySem.W.reads_keeps old ra))
        obtain ⟨zs, vz, dz⟩ := of_each eS
        obtain ⟨ee, he⟩ := sortedAll_at s.heap its (PySem.W.sortVals (PySem.W.dataKind (PySem.W.sortingHeap (PySem.W.copyHeap s.heap its) (s.heap.objs.size + 1) its) (D.toPs l)) false its its).toArray
        have hn : H (s.heap.objs.size + 1) = none := I.hok.fresh (Nat.le_add_right _ _)
        have hzl : zs.length ≤ sizeLine := by
          rw [vz.length, PySem.W.sortVals_length false rfl]; exact hL
        refine ⟨.ref (s.heap.objs.size + 1), _, I.laid (t' := s.toks) (o := .lst zs) (fun b o eb => sortedAll_old eb) (Nat.le_add_right _ _) ⟨hzl, _, ee, vz, he⟩, rfl, ?_⟩
        exact new_lst (K := (kb X).no) mr (show DRels (kb X) ⟨H, mu⟩ (srtL l) zs from dz) sat hn
    · exact sat.elim
  · exact sat.elim
end RI

set_option maxHeartbeats 4000000
namespace RI
open PySem PySem.Spec PyProof.Rows L2 RZ
variable {T : Tb} {C : CC}
/-! ### d.get(k, x) -/
def isDctD (M : Mem) (d : D) : Bool := (dctD M d).isSome || (dksD M d).isSome
def getD2 (o k d : D) (M : Mem) : Res D := match dctD M o with
  | some l => if D.isKey k = true then .ok ((dgetD (D.toK k) l).getD d) M else .bad
  | none => match dksD M o with
    | some l => (match D.key1 k with | some k => .ok ((dkget k l).getD d) M | none => .bad)
    | none => .bad
def mGet2 (mo mk md : ME) : ME := fun F r M => (mo F r M).bind fun o M1 => if isDctD M1 o = true then (mk F r M1).bind fun k M2 => (md F r M2).bind fun d M3 => (getD2 o k d M3).noX else .bad
theorem isDct_at {X : Cx} {pins : List (Addr × Obj)} {σ : L2.St} {H : Hp} {s : Shared} {mu : Mu} {M : Mem} (I : Inv X pins σ H s) (mr : MRel (kb X) ⟨H, mu⟩ M) {d : D} {v : V} (h : isDctD M d = true) (dv : DRel (kb X) ⟨H, mu⟩ d v) : ∃ a, v = .ref a ∧ s.TypeIs (.ref a) "dict" ∧ ∀ b, Value.ref a = .ref b → ∃ ob, s.heap.get? b = some ob ∧ ob.dict = none := by
  unfold isDctD at h
  cases e : dctD M d with
  | some l =>
    obtain ⟨j, lk, rfl, ej⟩ := dctD_obj e
    simp only [DRel] at dv
    obtain ⟨a, rfl, ha⟩ := dv
    obtain ⟨xs, h1, hd, h3, h4, h5⟩ := dct_at I mr ha ej
    refine ⟨a, rfl, hd.typeIs, fun b eb => ?_⟩
    cases eb
    obtain ⟨ob, _, _, g1, g2, _⟩ := hd
    exact ⟨ob, g1, g2.2.1⟩
  | none =>
    rw [e] at h
    simp only [Option.isSome_none, Bool.false_or] at h
    obtain ⟨l, e⟩ := Option.isSome_iff_exists.mp h
    obtain ⟨j, lk, rfl, ej⟩ := dksD_obj e
    simp only [DRel] at dv
    obtain ⟨a, rfl, ha⟩ := dv
    obtain ⟨kvs, g1, g2⟩ := dks_at mr ha ej
    obtain ⟨t1, t2, _⟩ := isD_at I (.inl ⟨kvs, g1.rd⟩)
    exact ⟨a, rfl, t1, t2⟩
theorem get2_run {X : Cx} {pins : List (Addr × Obj)} {σ : L2.St} {H : Hp} {s : Shared} {mu : Mu} {M : Mem} {wx : Ex → L2.St → Wd → Prop} (hu : X.A.units + 65 < cLine) (I : Inv X pins σ H s) (mr : MRel (kb X) ⟨H, mu⟩ M) {o k d : D} {v y z : V} {u r q : Value} (dv : DRel (kb X) ⟨H, mu⟩ o v) (dk : DRel (kb X) ⟨H, mu⟩ k y) (dd : DRel (kb X) ⟨H, mu⟩ d z) (rv : RelV v u) (rk : RelV y r) (rz : RelV z q) {Q : VK} (sat : Sat ((kx X wx).at σ) ⟨H, mu⟩ (getD2 o k d M) (PV (kb X) Q)) :
    wpAny (model X.prog X.w) X.A (call (.builtin "dict.get") [u, r, q]) (fun w s' => ∃ v' H', Inv X pins σ H' s' ∧ RelV v' w ∧ Q v' H') X.xe s := by
  unfold getD2 at sat
  split at sat
  · rename_i l e
    obtain ⟨j, lk, rfl, ej⟩ := dctD_obj e
    obtain ⟨hk, sat⟩ := sat_ite sat
    simp only [DRel] at dv
    obtain ⟨a, rfl, ha⟩ := dv
    cases rv
    obtain ⟨ka, rfl, rfl, hki⟩ := isKey_is I hk dk rk
    obtain ⟨xs, h1, hd, h3, h4, h5⟩ := dct_at I mr ha ej
    refine call_meetsIn F.slot_dict_get hd.typeIs F.entry_dict_get (F.args_dict_get_3 _ _ _) (meetsH_dict_get_default (nestedKind X.prog X.w) a ka h4 q) ⟨room_k hu, D.toK k, xs, hki, hd, ?_⟩
    cases ed : dgetD (D.toK k) l with
    | some e' =>
      obtain ⟨p, hp, v', dv', rv'⟩ := (dget_rel (D.toK k) h5).1 e' ed
      rw [ed] at sat
      refine ⟨v', H, I.tok _, ?_, sat.ok mr _ dv'⟩
      rw [hp]; exact rv'
    | none =>
      have hp := (dget_rel (D.toK k) h5).2 ed
      rw [ed] at sat
      refine ⟨z, H, I.tok _, ?_, sat.ok mr _ dd⟩
      rw [hp]; exact rz
  split at sat
  · rename_i l e
    obtain ⟨j, lk, rfl, ej⟩ := dksD_obj e
    split at sat
    · rename_i k1 ek
      simp only [DRel] at dv
      obtain ⟨a, rfl, ha⟩ := dv
      cases rv
      have hyk := key1_kV ek dk
      obtain ⟨kvs, g1, g2⟩ := dks_at mr ha ej
      have g : DGet H a y (valV kvs k1) := .inl ⟨kvs, k1, g1.rd, hyk, rfl⟩
      refine d_get2 (by omega) I g rk rz fun w' s3 I3 rw' => ⟨_, H, I3, rw', ?_⟩
      cases ed : dkget k1 l with
      | some e' =>
        obtain ⟨v', hv, dv'⟩ := (dkget_rel k1 g2).1 e' ed
        rw [ed] at sat
        rw [hv]
        exact sat.ok mr _ dv'
      | none =>
        rw [(dkget_rel k1 g2).2 ed]
        rw [ed] at sat
        exact sat.ok mr _ dd
    · exact sat.elim
  · exact sat.elim
theorem ok_get2 {o e f : Expr} {name : Str} {apos cpos : Pos} {mo mk md : ME} (hn : name = "get") (hb : noSup o = true) (hl : (apos.endLine == cpos.line) = true) (hs : noStar e = true) (hs' : noStar f = true) (ho : OkE T C o mo) (he : OkE T C e mk) (hf : OkE T C f md) : OkE T C (.Call (.Attribute o name apos) [e, f] [] cpos) (mGet2 mo mk md) := by
  subst hn
  intro n X wx h
  have hu : X.A.units + 65 < cLine := by have := h.un; omega
  have tr : backTo cpos (starEach [e, f] X.env) = [(false, eval e X.env), (false, eval f X.env)] := by
    have e1 : starEach [e, f] X.env = (false, eval e X.env) :: starEach [f] X.env := by cases e <;> first | rfl | cases hs
    have e2 : starEach [f] X.env = [(false, eval f X.env)] := by cases f <;> first | rfl | cases hs'
    rw [e1, e2]
    rfl
  refine ⟨fun pins s σ H Q I q => ?_⟩
  obtain ⟨mu, M, r, mr, sr, sat⟩ := q
  have p1 := (ho n X wx h).run pins s σ H (fun v H1 => ∃ mu1 M1 o, MRel (kb X) ⟨H1, mu1⟩ M1 ∧ SRel (kb X) ⟨H1, mu1⟩ σ r ∧ DRel (kb X) ⟨H1, mu1⟩ o v ∧ isDctD M1 o = true ∧ Sat ((kx X wx).at σ) ⟨H1, mu1⟩ ((mk (callF T n) r M1).bind fun k M2 => (md (callF T n) r M2).bind fun d M3 => (getD2 o k d M3).noX) (PV (kb X) Q)) I ⟨mu, M, r, mr, sr, sat.bind.imp fun d M1 W1 l1 m1 s1 v dv => by
    obtain ⟨hk, s1⟩ := sat_ite s1
    exact ⟨W1.mu, M1, d, m1, sr.le l1, dv, hk, s1⟩⟩
  refine wpAny_Call_method (nsb hb) (by rw [tr]; rfl) hl PySem.F.plainAttrs_dict PySem.F.slot_dict_get PySem.F.type_dict_get (thn p1 fun u s1 ⟨v, H1, I1, rx, mu1, M1, d, m1, sr1, dv, hk, sat1⟩ => ?_)
  obtain ⟨a, rfl, t1, t2⟩ := isDct_at I1 m1 hk dv
  have rx' := rx
  cases rx
  refine ⟨t1, t2, ?_⟩
  rw [tr]
  have p2 := (he n X wx h).run pins s1 σ H1 (fun y H2 => ∃ mu2 M2 k, MRel (kb X) ⟨H2, mu2⟩ M2 ∧ SRel (kb X) ⟨H2, mu2⟩ σ r ∧ DRel (kb X) ⟨H2, mu2⟩ d (.ref a) ∧ DRel (kb X) ⟨H2, mu2⟩ k y ∧ Sat ((kx X wx).at σ) ⟨H2, mu2⟩ ((md (callF T n) r M2).bind fun d' M3 => (getD2 d k d' M3).noX) (PV (kb X) Q)) I1 ⟨mu1, M1, r, m1, sr1, sat1.bind.imp fun k M2 W2 l2 m2 s2 y dy => ⟨W2.mu, M2, k, m2, sr1.le l2, DRel.le l2 _ _ dv, dy, s2⟩⟩
  refine Calls.callWith_builtin rfl (Calls.evalArgs_plain (Calls.spliced_cons (thn p2 fun iv s2 ⟨y, H2, I2, ry, mu2, M2, k, m2, sr2, dv2, dk2, sat2⟩ => Calls.spliced_cons (thn ((hf n X wx h).run pins s2 σ H2 (fun z H3 => ∃ mu3 M3 d', MRel (kb X) ⟨H3, mu3⟩ M3 ∧ DRel (kb X) ⟨H3, mu3⟩ d (.ref a) ∧ DRel (kb X) ⟨H3, mu3⟩ k y ∧ DRel (kb X) ⟨H3, mu3⟩ d' z ∧ Sat ((kx X wx).at σ) ⟨H3, mu3⟩ ((getD2 d k d' M3).noX) (PV (kb X) Q)) I2 ⟨mu2, M2, r, m2, sr2, sat2.bind.imp fun d' M3 W3 l3 m3 s3 z dz => ⟨W3.mu, M3, d', m3, DRel.le l3 _ _ dv2, DRel.le l3 _ _ dk2, dz, s3⟩⟩) fun fv s3 ⟨z, H3, I3, rz, mu3, M3, d', m3, dv3, dk3, dd3, sat3⟩ => Calls.spliced_nil ?_))))
  exact get2_run (wx := wx) hu I3 m3 dv3 dk3 dd3 rx' ry rz (by
    have := sat3
    cases eg : getD2 d k d' M3 with
    | ok a b => rw [eg] at this; exact this
    | bad => rw [eg] at this; exact this
    | exc a b => rw [eg] at this; exact this.elim)
/-! ### zip of two tuples -/
def zipD : List D → List D → List D
  | a :: r, b :: r' => .tup [a, b] :: zipD r r'
  | _, _ => []
theorem zipD_len : ∀ a b : List D, (zipD a b).length = min a.length b.length
  | [], _ => by simp [zipD]
  | _ :: _, [] => by simp [zipD]
  | _ :: a, _ :: b => by simp [zipD, zipD_len a b]
theorem zipD_get : ∀ (a b : List D) (i : Nat) (d : D), (zipD a b)[i]? = some d → ∃ x y, a[i]? = some x ∧ b[i]? = some y ∧ d = .tup [x, y]
  | [], _, i, d, h => by simp [zipD] at h
  | _ :: _, [], i, d, h => by simp [zipD] at h
  | x :: a, y :: b, 0, d, h => by simp [zipD] at h; exact ⟨x, y, by simp, by simp, h.symm⟩
  | x :: a, y :: b, i + 1, d, h => by
    simp only [zipD, List.getElem?_cons_succ] at h
    obtain ⟨u, v, h1, h2, h3⟩ := zipD_get a b i d h
    exact ⟨u, v, by simpa using h1, by simpa using h2, h3⟩
def mZip (ms : MA) : MI := fun F r M => (ms F r M).bind fun ds M1 => match ds with
  | [.tup a, .tup b] => .ok (zipD a b, none) M1
  | _ => .bad
theorem walk_zipT {K : PySem.W.Frag} {a b : Addr} {xs ys : List V} : Walk (ItzT K a b) (min xs.length ys.length) (fun H => SqT K H a xs ∧ SqT K H b ys) (YPair (fun i => xs[i]?) (fun i => ys[i]?)) := by
  refine ⟨fun i H hi q => ⟨xs, ys, xs[i], ys[i], q.1, q.2, by simp, by simp⟩, fun H q => ⟨xs, ys, q.1, q.2, by omega⟩, fun i H x H' hi q y => ?_⟩
  obtain ⟨p, v, u, e1, e2, e3, e4, e5⟩ := y
  exact ⟨p, v, u, e1, e2, e3, e4 xs q.1, e5 ys q.2⟩
theorem ok_izip {elts : List Expr} {kk : Nat} {tpos p pos : Pos} {e e2 : Expr} {ms : MA} {x : Str} (hx' : x = "zip") (hx : x ∈ T.blt) (hg : C.sc.names.lookup x = some .globalImplicit) (hs : noStar e = true) (hs2 : noStar e2 = true) (h : OkA T C [e, e2] ms) : OkI T C (.Tuple elts kk tpos) (.Call (.Name x p) [e, e2] [] pos) (mZip ms) := by
  intro n X wx q
  subst hx'
  refine PI.of (pi_zipA (gl_of q hg) (q.blt _ hx) (h n X wx q) (by cases e <;> first | rfl | cases hs) (by cases e2 <;> first | rfl | cases hs2)) fun s H R w => ?_
  obtain ⟨mu, M, r, mr, sr, sat⟩ := w
  refine ⟨mu, M, r, mr, sr, sat.bind.imp fun ds M1 W1 l1 m1 s1 vs dvs => ?_⟩
  split at s1
  · rename_i la lb
    obtain ⟨v, u, rfl, d1, d2⟩ := rels2 dvs
    simp only [DRel] at d1 d2
    obtain ⟨a, xs, rfl, t1, r1⟩ := d1
    obtain ⟨b, ys, rfl, t2, r2⟩ := d2
    refine ⟨a, b, xs, ys, rfl, .inr ⟨t1.sq, t2.sq, ?_⟩⟩
    refine s1 W1 (Le.refl _) m1 _ (walk_pair walk_zipT (fun W' l' => ⟨(t1.lk l').sq, (t2.lk l').sq⟩) (by rw [zipD_len, r1.length, r2.length]) fun i d v u e1 e2 e3 => ?_)
    obtain ⟨x, y, g1, g2, g3⟩ := zipD_get _ _ _ _ e1
    obtain ⟨v1, h1, h2⟩ := r1.get g1
    obtain ⟨v2, h3, h4⟩ := r2.get g2
    rw [h1] at e2; rw [h3] at e3
    cases e2; cases e3
    exact ⟨x, y, g3, h2, h4⟩
  · exact s1.elim
end RI

set_option maxHeartbeats 4000000
namespace RI
open PySem PySem.Spec PyProof.Rows L2
variable {T : Tb} {C : CC}
/-! ### f'..' -/
def fmtD (d : D) (M : Mem) : Res D := match d with
  | .str s => if Nat.ble s.length 16777216 = true then .ok (.str s) M else .bad
  | .int i => if Nat.ble i.natAbs 1000000000000000000 = true then .ok (.str (numS i)) M else .bad
  | _ => .bad
def mFmt (m : ME) : ME := fun F r M => (m F r M).bind fun d M1 => fmtD d M1
theorem ok_fmt {e : Expr} {pos : Pos} {m : ME} (he : OkE T C e m) : OkE T C (.FormattedValue e (-1) none pos) (mFmt m) := by
  intro n X wx h
  refine PE.of (pe_fmt (he n X wx h)) fun s H Q q => ?_
  obtain ⟨mu, M, r, mr, sr, sat⟩ := q
  refine ⟨mu, M, r, mr, sr, sat.bind.imp fun d M1 W1 l1 m1 s1 v dv => ?_⟩
  unfold fmtD at s1
  split at s1
  · rename_i z
    obtain ⟨hz, s1⟩ := sat_ite s1
    cases (show v = _ from dv)
    refine .inl ⟨_, rfl, ?_, s1.ok m1 _ rfl⟩
    rw [str_len, ← lim_eq]
    exact Nat.le_of_ble_eq_true hz
  · rename_i i
    obtain ⟨hz, s1⟩ := sat_ite s1
    cases (show v = _ from dv)
    refine .inr ⟨i, rfl, log_ok hz, ?_⟩
    rw [← numS_eq]
    exact s1.ok m1 _ rfl
  · exact s1.elim
def mJs : List ME → List Nat → ME
  | [], acc => fun _ _ M => .ok (.str acc) M
  | m :: ms, acc => fun F r M => (m F r M).bind fun d M1 => match d with
    | .str s => if Nat.ble (acc.length + s.length) 16777216 = true then mJs ms (acc ++ s) F r M1 else .bad
    | _ => .bad
inductive OkJ (T : Tb) (C : CC) : List Expr → List ME → Prop where
  | nil : OkJ T C [] []
  | cons {e : Expr} {m : ME} {es : List Expr} {ms : List ME} (h : OkE T C e m) (r : OkJ T C es ms) : OkJ T C (e :: es) (m :: ms)
theorem OkJ.pj {es : List Expr} {ms : List ME} (h : OkJ T C es ms) {n : Nat} {X : Cx} {wx : Ex → L2.St → Wd → Prop} (q : CxOk T n C X wx) : PJ X es (ms.map fun m => rdE (kx X wx) (callF T n) m) := by
  induction h with
  | nil => exact .nil
  | cons h _ ih => exact .cons (h n X wx q) ih
theorem js_of {X : Cx} {wx : Ex → L2.St → Wd → Prop} {F : FT} {s : L2.St} {Q : VK} : ∀ (ms : List ME) (acc : List Nat) (H : Hp), rdE (kx X wx) F (mJs ms acc) s H Q → tJs (ms.map fun m => rdE (kx X wx) F m) ⟨acc.toArray⟩ s H fun out H1 => Q (.str out) H1
  | [], acc, H, q => by
    obtain ⟨mu, M, r, mr, sr, sat⟩ := q
    exact sat.ok mr _ rfl
  | m :: ms, acc, H, q => by
    obtain ⟨mu, M, r, mr, sr, sat⟩ := q
    refine ⟨mu, M, r, mr, sr, sat.bind.imp fun d M1 W1 l1 m1 s1 v dv => ?_⟩
    cases d with
    | str z =>
      simp only at s1
      obtain ⟨hz, s1⟩ := sat_ite s1
      cases (show v = _ from dv)
      refine ⟨_, rfl, ?_, ?_⟩
      · rw [str_app, str_len, ← lim_eq, List.length_append]
        exact Nat.le_of_ble_eq_true hz
      · rw [str_app]
        exact js_of ms (acc ++ z) W1.H ⟨W1.mu, M1, r, m1, sr.le l1, s1⟩
    | _ => exact s1.elim
theorem ok_js {v1 v2 : Expr} {rest : List Expr} {pos : Pos} {ms : List ME} (h : OkJ T C (v1 :: v2 :: rest) ms) : OkE T C (.JoinedStr (v1 :: v2 :: rest) pos) (mJs ms []) := by
  intro n X wx q
  exact PE.of (pe_joined (h.pj q)) fun s H Q w => js_of ms [] H w
/-! ### l.extend(xs) -/
end RI

set_option maxHeartbeats 4000000
namespace RI
open PySem PySem.Spec PyProof.Rows L2
variable {T : Tb} {C : CC}
/-! ### dicts by their entries -/
def dicD (M : Mem) (d : D) : Option (List (D × D)) := match dctD M d with
  | some l => some l
  | none => dksD M d
theorem raw_at {X : Cx} {pins : List (Addr × Obj)} {σ : L2.St} {H : Hp} {s : Shared} {a : Addr} {u : HO} {ks vs : List V} (I : Inv X pins σ H s) (h : Rd H a u) (mt : Mut (some u)) (k : DKV X.prog X.w a u ks vs) :
    (a == sysModules) = false ∧ ∃ es ep, s.heap.DictRaw a es ep ∧ es.size = ks.length ∧ es.size = vs.length ∧ (∀ (i : Nat) (x : V) (hi : i < es.size), ks[i]? = some x → RelV x es[i].key) ∧ (∀ (i : Nat) (x : V) (hi : i < es.size), vs[i]? = some x → RelV x es[i].val) := by
  have main : ∀ (o : Obj) (H2 : Hp), Inv X pins σ H2 s → H2 a = some (.frz o u) → (a == sysModules) = false ∧ ∃ es ep, s.heap.DictRaw a es ep ∧ es.size = ks.length ∧ es.size = vs.length ∧ (∀ (i : Nat) (x : V) (hi : i < es.size), ks[i]? = some x → RelV x es[i].key) ∧ (∀ (i : Nat) (x : V) (hi : i < es.size), vs[i]? = some x → RelV x es[i].val) := by
    intro o H2 I2 e2
    obtain ⟨g1, g2⟩ := I2.hok a _ e2
    obtain ⟨hs, hx, es, ep, hod, hz, hz', hv, hv'⟩ := k H2 s.heap o g1 g2
    exact ⟨hs, es, ep, raw_of I2 hx hod e2, hz, hz', hv, hv'⟩
  rcases h with h | ⟨o, h⟩
  · obtain ⟨o, I2⟩ := I.lock h mt
    exact main o _ I2 upd_same
  · exact main o H I h
theorem dic_at {X : Cx} {pins : List (Addr × Obj)} {σ : L2.St} {H : Hp} {s : Shared} {mu : Mu} {M : Mem} (I : Inv X pins σ H s) (m : MRel (kb X) ⟨H, mu⟩ M) {d : D} {l : List (D × D)} (h : dicD M d = some l) {v : V} (dv : DRel (kb X) ⟨H, mu⟩ d v) :
    ∃ a u ks vs, v = .ref a ∧ Rd H a u ∧ Mut (some u) ∧ DKV X.prog X.w a u ks vs ∧ DRels (kb X) ⟨H, mu⟩ (l.map (·.1)) ks ∧ DRels (kb X) ⟨H, mu⟩ (l.map (·.2)) vs ∧ l.length ≤ sizeLine := by
  unfold dicD at h
  split at h
  · rename_i l' e
    cases h
    obtain ⟨j, lk, rfl, ej⟩ := dctD_obj e
    simp only [DRel] at dv
    obtain ⟨a, rfl, ha⟩ := dv
    obtain ⟨xs, g1, g2, g3, g4, g5⟩ := m.obj j a _ ha ej
    obtain ⟨vs, k1, k2, k3⟩ := dkv_t (a := a) g4 g5
    exact ⟨a, DctO X.prog X.w a xs, _, vs, rfl, g1.rd, True.intro, k1, k2, k3, by rw [Paired.length g5]; exact g3⟩
  · obtain ⟨j, lk, rfl, ej⟩ := dksD_obj h
    simp only [DRel] at dv
    obtain ⟨a, rfl, ha⟩ := dv
    obtain ⟨kvs, g1, g2⟩ := m.obj j a _ ha ej
    obtain ⟨k2, k3⟩ := drels_k g2
    refine ⟨a, .dK kvs, _, _, rfl, g1.rd, True.intro, dkv_k, k2, k3, ?_⟩
    rw [Paired.length g2]
    rcases g1.rd with g | ⟨o, g⟩
    · exact (I.hok a _ g).1
    · exact (I.hok a _ g).2.1
theorem dic_raw {X : Cx} {pins : List (Addr × Obj)} {σ : L2.St} {H : Hp} {s : Shared} {mu : Mu} {M : Mem} (I : Inv X pins σ H s) (m : MRel (kb X) ⟨H, mu⟩ M) {d : D} {l : List (D × D)} (h : dicD M d = some l) {v : V} (dv : DRel (kb X) ⟨H, mu⟩ d v) :
    ∃ a ks es ep, v = .ref a ∧ (a == sysModules) = false ∧ DRels (kb X) ⟨H, mu⟩ (l.map (·.1)) ks ∧ l.length ≤ sizeLine ∧ s.heap.DictRaw a es ep ∧ es.size = ks.length ∧ (∀ (i : Nat) (x : V) (hi : i < es.size), ks[i]? = some x → RelV x es[i].key) := by
  obtain ⟨a, u, ks, vs, rfl, rd, mt, dk, r1, r2, hl⟩ := dic_at I m h dv
  obtain ⟨hs, es, ep, raw, z1, z2, h1, h2⟩ := raw_at I rd mt dk
  exact ⟨a, ks, es, ep, rfl, hs, r1, hl, raw, z1, h1⟩
/-! ### len -/
section
open Sem (wp)
variable {prog : Program} {w : World} {A : Around} {E : Value → Shared → Prop} {s : Shared}
theorem meets_lenR (d : Addr) (hd : (d == sysModules) = false) : MeetsIn prog w (Builtin.«dict.__len__» ⟨[.ref d], []⟩) (fun _ R s => ∃ es ep, s.heap.DictRaw d es ep ∧ R (.ok (.ret (.int es.size s.toks))) { s with toks := s.toks + 1 }) := by
  refine .of_wp fun A R s h => ?_
  obtain ⟨es, ep, ⟨o, ho, hx, hdat⟩, r⟩ := h
  change wpAny _ _ (dictSize d >>= _) _ _ s
  rw [dictSize]
  refine wpAny_bind (wpAny_bind (wpAny_dictEntries ho hdat (wpAny_pure (?_ : wpAny _ _ (Builtin.Dict.pendingCount d >>= _) _ _ s))))
  exact wpAny_bind (wpAny_pendingCount_other hd (wpAny_ret_mkInt (by rw [Nat.add_zero]; exact r)))
theorem len_raw {d : Addr} {es : Array DictEntry} {ep : Nat} {Q : Value → Shared → Prop} (hd : (d == sysModules) = false) (hm : s.heap.DictRaw d es ep) (hfit : (es.size : Int) < 2 ^ 63)
    (h : Q (.int es.size (s.toks + 1)) { s with toks := s.toks + 1 + 1 }) : wpAny (model prog w) A (call (.builtin "len") [.ref d]) Q E s := by
  have hty : s.TypeIs (.ref d) "dict" := by obtain ⟨o, ho, hx, _⟩ := hm; exact ⟨o, ho, hx.1⟩
  refine Calls.call_function_entry kind_len plain_len entry_len (args_len1 _) ?_
  rw [Builtin.«len»]
  refine wpAny_bind (m := oneArg "len" _) (wpAny_pure (wpAny_bind (m := callSpecial? (.ref d) (Str.ofString "__len__")) (wpAny_callSpecial?_slot (name := Str.ofString "__len__") hty F.slot_dict_len ?_)))
  refine call_meetsIn F.slot_dict_len hty F.entry_dict_len (F.args_dict_len_1 _) (meets_lenR d hd) ⟨es, ep, hm, ?_⟩
  change wpAny _ _ _ _ _ { s with toks := s.toks + 1 }
  refine wpAny_bind (wpAny_holding (wpAny_pure (wpAny_bind (wpAny_letGo ?_))))
  change wpAny _ _ (if ((es.size : Nat) : Int) < 0 then _ else _) _ _ _
  rw [if_neg (by omega)]
  change wpAny _ _ (if ((es.size : Nat) : Int) ≥ 2 ^ 63 then _ else _) _ _ _
  rw [if_neg (by omega)]
  exact wpAny_bind (wpAny_mkInt (wpAny_pure ⟨_, rfl, h⟩))
end
def lenX (ds : List D) (M : Mem) : Res D := match ds with
  | [d] => (match dicD M d with | some l => .ok (.int l.length) M | none => lenD ds M)
  | _ => .bad
theorem cr_lenX {X : Cx} : CallR X (.builtin "len") (rC (kb X) lenX) := by
  intro pins s σ H xs us Q I r h
  obtain ⟨mu, M, ds, mr, dr, sat⟩ := h
  unfold lenX at sat
  split at sat
  · split at sat
    · rename_i d l e
      obtain ⟨v, rfl, dv⟩ := rels1 dr
      obtain ⟨a, ks, es, ep, rfl, hs, r1, hl, raw, z1, h1⟩ := dic_raw I mr e dv
      obtain rfl := Vals.ref1 r
      have hz : es.size = l.length := by rw [z1, ← r1.length, List.length_map]
      refine len_raw hs raw (by rw [hz]; rw [sizeLine_eq] at hl; omega) ?_
      refine ⟨.int l.length, H, (I.tok _).tok _, ⟨_, by rw [hz]⟩, sat.ok mr _ rfl⟩
    · exact cr_len pins s σ H xs us Q I r ⟨mu, M, _, mr, dr, sat⟩
  · exact sat.elim
/-! ### list(d) -/
theorem vals_items {ks : List V} {us : List Value} (hl : us.length = ks.length) (h : ∀ (i : Nat) (x : V) (u : Value), ks[i]? = some x → us[i]? = some u → RelV x u) : Vals ks us := by
  induction ks generalizing us with
  | nil => cases us with
    | nil => exact .nil
    | cons u us => simp at hl
  | cons k ks ih => cases us with
    | nil => simp at hl
    | cons u us => exact .cons (h 0 k u rfl rfl) (ih (by simpa using hl) fun i x u e1 e2 => h (i + 1) x u (by simpa using e1) (by simpa using e2))
theorem vals_raw {ks : List V} {es : Array DictEntry} {acc : Array Value} (z1 : es.size = ks.length) (h1 : ∀ (i : Nat) (x : V) (hi : i < es.size), ks[i]? = some x → RelV x es[i].key) (hi : ItemsOf (fun i v => ∃ hi : i < es.size, v = es[i].key) acc es.size) : Vals ks acc.toList := by
  refine vals_items (by rw [Array.length_toList, hi.1, z1]) fun i x u e1 e2 => ?_
  obtain ⟨hlt, rfl⟩ := hi.2 i u (by rw [← Array.getElem?_toList]; exact e2)
  exact h1 i x hlt e1
def toLstX (mt : Bool) (ds : List D) (M : Mem) : Res D := match ds with
  | [d] => (match dicD M d with | some l => if mt then newO (l.map (·.1)) M else .ok (.lst (l.map (·.1))) M | none => toLstD mt ds M)
  | _ => .bad
theorem cr_listX {X : Cx} {mt : Bool} (hc : X.calm = true) : CallR X (.type "list") (rC (kb X) (toLstX mt)) := by
  intro pins s σ H xs us Q I r h
  obtain ⟨mu, M, ds, mr, dr, sat⟩ := h
  unfold toLstX at sat
  split at sat
  · split at sat
    · rename_i d l e
      obtain ⟨v, rfl, dv⟩ := rels1 dr
      obtain ⟨a, ks, es, ep, rfl, hs, r1, hl, raw, z1, h1⟩ := dic_raw I mr e dv
      obtain rfl := Vals.ref1 r
      have hz : es.size = l.length := by rw [z1, ← r1.length, List.length_map]
      refine PySem.W.kdl_call (PySem.KdlSrc.rawDict (es := es) (ep := ep) hs) (I.ok.hd hc) raw (by rw [hz]; exact hl) fun h' tk acc c' hk hD hi => ?_
      have hn : H s.heap.objs.size = none := I.hok.fresh (Nat.le_refl _)
      have hv := vals_raw z1 h1 hi
      refine ⟨.ref s.heap.objs.size, _, I.laid (t' := tk) (o := .lst ks) hk (Nat.le_refl _) ⟨by rw [← z1, hz]; exact hl, acc.toList, c', hv, by simpa using hD⟩, rfl, ?_⟩
      cases mt with
      | true => exact new_obj mr r1 sat hn
      | false => exact new_lst mr r1 sat hn
    · exact cr_list pins s σ H xs us Q I r ⟨mu, M, _, mr, dr, sat⟩
  · exact sat.elim
/-! ### sorted(d) -/
section
open PySem.W
variable {prog : Program} {w : World} {A : Around} {E : Value → Shared → Prop} {s : Shared}
theorem sorted_coll {κ : List Value → Heap → KeyKind} {l : Addr} {Q : Value → Shared → Prop} {Cd : Shared → List Value → Prop} (hg : ∀ R : List Value → Shared → Prop, (∀ s1 vs, Cd s1 vs → R vs s1) → wpAny (model prog w) A.in1 (collect (.ref l)) R E s)
    (S : ∀ s1 vs, Cd s1 vs → SortsAt prog w A.in1.in1 { s1 with heap := sortingHeap (s1.heap.push (seqObj "list" vs.toArray 0)) s1.heap.objs.size vs } (κ vs s1.heap) vs ∧ vs.length ≤ sizeLine ∧
      Q (.ref s1.heap.objs.size) { s1 with heap := sortedHeap (s1.heap.push (seqObj "list" vs.toArray 0)) s1.heap.objs.size vs (sortVals (κ vs s1.heap) false vs vs).toArray }) : wpAny (model prog w) A (call (.builtin "sorted") [.ref l]) Q E s := by
  refine call_function_entry_kw kind_sorted plain_sorted entry_sorted (args_sorted1 _) ?_
  unfold Builtin.«sorted»
  refine wpAny_bind (m := checkCount "sorted" 1 1 _) (wpAny_pure (wpAny_bind (hg _ fun s1 vs hc => ?_)))
  obtain ⟨S, hL, h⟩ := S s1 vs hc
  refine wpAny_bind (wpAny_newList ?_ hL)
  have at0 : (s1.heap.push (seqObj "list" vs.toArray 0)).get? s1.heap.objs.size = some (seqObj "list" vs.toArray 0) := Heap.get?_push_size _ rfl
  refine wpAny_bind (wpAny_holding (wpAny_call_entry_kw slot_list_sort ⟨_, at0, rfl⟩ entry_list_sort ?_ (args_list_sort _)))
  change wpAny (model prog w) A.in1.in1 (Builtin.«list.sort» ⟨[.ref s1.heap.objs.size], []⟩) _ _ _
  exact list_sort_vals (s := { s1 with heap := s1.heap.push (seqObj "list" vs.toArray 0) }) at0 S hL ⟨_, rfl, wpAny_pure ⟨_, rfl, h⟩⟩
end
def srtX (ds : List D) (M : Mem) : Res D := match ds with
  | [d] => (match dicD M d with | some l => if (ordL (l.map (·.1)) && sbl (l.map (·.1))) = true then .ok (.lst (srtL (l.map (·.1)))) M else .bad | none => srtD ds M)
  | _ => .bad
/-- sorted of what is gathered -/
theorem sorted_fin {X : Cx} {pins : List (Addr × Obj)} {σ : L2.St} {H : Hp} {s : Shared} {W : Wd} {ks : List V} {l : List D} {vs : List Value} (hW : W.H = H) (hu : X.A.units + 70 < cLine) (I : Inv X pins σ H s) (hc : (ordL l && sbl l) = true) (r1 : DRels (kb X) W l ks) (hl : l.length ≤ sizeLine) (hv : Vals ks vs) :
    PySem.W.SortsAt X.prog X.w X.A.in1.in1 { s with heap := PySem.W.sortingHeap (s.heap.push (seqObj "list" vs.toArray 0)) s.heap.objs.size vs } (PySem.W.dataKind (PySem.W.sortingHeap (s.heap.push (seqObj "list" vs.toArray 0)) s.heap.objs.size vs) (D.toPs l)) vs ∧ vs.length ≤ sizeLine ∧
    ∀ Q : VK, (∀ p zs, H p = none → DRels (kb X) W (srtL l) zs → Q (.ref p) (upd H p (.lst zs))) →
      ∃ v' H', Inv X pins σ H' { s with heap := sortedHeap (s.heap.push (seqObj "list" vs.toArray 0)) s.heap.objs.size vs (PySem.W.sortVals (PySem.W.dataKind (PySem.W.sortingHeap (s.heap.push (seqObj "list" vs.toArray 0)) s.heap.objs.size vs) (D.toPs l)) false vs vs).toArray } ∧ RelV v' (.ref s.heap.objs.size) ∧ Q v' H' := by
  subst hW
  simp only [Bool.and_eq_true] at hc
  obtain ⟨h1, h2, h3⟩ := ordL_all hc.1
  have rds : ∀ u d, d ∈ l → (∃ x, RelV x u ∧ DRel (kb X) W d x) → ∃ as, Reads s.heap u (D.toP d) as := fun u d hd ⟨x, rx, dx⟩ => Dp.reads I _ x u (D.dp d x (noObjs_mem h1 hd) dx) rx
  have hal : PySem.W.AllAlike (D.toPs l) := fun d hd d' hd' => h2.1 d hd d' hd'
  have e0 := each_of r1 hv
  have old : ∀ b o, s.heap.get? b = some o → (PySem.W.sortingHeap (s.heap.push (seqObj "list" vs.toArray 0)) s.heap.objs.size vs).get? b = some o := fun b o eb => PySem.W.sortingHeap_old (Nat.ne_of_lt (Heap.lt_size eb)) (Heap.get?_push_of_some _ eb)
  have hL : vs.length ≤ sizeLine := by rw [← hv.length, ← r1.length]; exact hl
  have eR : PySem.W.EachIs (fun u d => ∃ as, Reads (PySem.W.sortingHeap (s.heap.push (seqObj "list" vs.toArray 0)) s.heap.objs.size vs) u d as) vs (D.toPs l) := by
    rw [toPs_eq]
    exact each_map (each_imp e0 fun u d hd hx => by
      obtain ⟨as, ra⟩ := rds u d hd hx
      exact ⟨as, PySem.W.reads_keeps old ra⟩)
  refine ⟨PySem.W.SortsAt.data (A := X.A.in1.in1) eR hal (sbl_ok hc.2 h2) (fun d hd => ?_), hL, fun Q hQ => ?_⟩
  · have := depth_mem hd
    show X.A.units + 1 + 1 + _ < _
    omega
  · have eS := PySem.W.sortVals_each (rev := false) (κ := PySem.W.dataKind (PySem.W.sortingHeap (s.heap.push (seqObj "list" vs.toArray 0)) s.heap.objs.size vs) (D.toPs l)) (fun d : D => PySem.W.keyToks (D.toP d)) e0 (each_imp e0 fun u d hd hx => by
      obtain ⟨as, ra⟩ := rds u d hd hx
      exact PySem.W.dataKind_some hal (by rw [toPs_eq]; exact List.mem_map.mpr ⟨d, hd, rfl⟩) (PySem.W.reads_keeps old ra))
    obtain ⟨zs, vz, dz⟩ := of_each eS
    have at0 : (s.heap.push (seqObj "list" vs.toArray 0)).get? s.heap.objs.size = some (seqObj "list" vs.toArray 0) := Heap.get?_push_size _ rfl
    obtain ⟨ee, he⟩ := PyProof.Rows.sortedHeap_at (vs := vs) (out := (PySem.W.sortVals (PySem.W.dataKind (PySem.W.sortingHeap (s.heap.push (seqObj "list" vs.toArray 0)) s.heap.objs.size vs) (D.toPs l)) false vs vs).toArray) at0
    have hn : W.H s.heap.objs.size = none := I.hok.fresh (Nat.le_refl _)
    have hzl : zs.length ≤ sizeLine := by
      rw [vz.length, PySem.W.sortVals_length false rfl]; exact hL
    refine ⟨.ref s.heap.objs.size, _, I.laid (t' := s.toks) (o := .lst zs) (fun b o eb => ?_) (Nat.le_refl _) ⟨hzl, _, ee, vz, he⟩, rfl, hQ _ zs hn (show DRels (kb X) W (srtL l) zs from dz)⟩
    have hlt := Heap.lt_size eb
    have e1 := PyProof.Rows.sortedHeap_old (h := s.heap.push (seqObj "list" vs.toArray 0)) (a := s.heap.objs.size) (b := b) (vs := vs) (out := (PySem.W.sortVals (PySem.W.dataKind (PySem.W.sortingHeap (s.heap.push (seqObj "list" vs.toArray 0)) s.heap.objs.size vs) (D.toPs l)) false vs vs).toArray) (Nat.ne_of_lt hlt) (by rw [size_push']; exact Nat.lt_succ_of_lt hlt)
    exact e1.trans (Heap.get?_push_of_some _ eb)
theorem sorted_run {X : Cx} {pins : List (Addr × Obj)} {σ : L2.St} {H : Hp} {s : Shared} {mu : Mu} {M : Mem} {Q : VK} {a : Addr} {ks : List V} {l : List D} (hu : X.A.units + 70 < cLine) (I : Inv X pins σ H s) (mr : MRel (kb X) ⟨H, mu⟩ M) (hc : (ordL l && sbl l) = true) (r1 : DRels (kb X) ⟨H, mu⟩ l ks) (hl : l.length ≤ sizeLine)
    (hg : ∀ R : List Value → Shared → Prop, (∀ s1 vs, (Inv X pins σ H s1 ∧ Vals ks vs) → R vs s1) → wpAny (model X.prog X.w) X.A.in1 (collect (.ref a)) R X.xe s)
    (sat : Sat (kb X).no ⟨H, mu⟩ (.ok (.lst (srtL l)) M) (PV (kb X) Q)) :
    wpAny (model X.prog X.w) X.A (call (.builtin "sorted") [.ref a]) (fun w s' => ∃ v' H', Inv X pins σ H' s' ∧ RelV v' w ∧ Q v' H') X.xe s := by
  refine sorted_coll (κ := fun vs h1 => PySem.W.dataKind (PySem.W.sortingHeap (h1.push (seqObj "list" vs.toArray 0)) h1.objs.size vs) (D.toPs l)) hg fun s1 vs ⟨I1, hv⟩ => ?_
  obtain ⟨a1, a2, a3⟩ := sorted_fin (W := ⟨H, mu⟩) rfl hu I1 hc r1 hl hv
  exact ⟨a1, a2, a3 Q fun p zs hp dz => new_lst (K := (kb X).no) mr dz sat hp⟩
theorem cr_sortedX {X : Cx} (hc : X.calm = true) (hu : X.A.units + 70 < cLine) : CallR X (.builtin "sorted") (rC (kb X) srtX) := by
  intro pins s σ H xs us Q I r h
  obtain ⟨mu, M, ds, mr, dr, sat⟩ := h
  unfold srtX at sat
  split at sat
  · split at sat
    · rename_i d l e
      obtain ⟨hq, sat⟩ := sat_ite sat
      obtain ⟨v, rfl, dv⟩ := rels1 dr
      obtain ⟨a, ks, es, ep, rfl, hs, r1, hl, raw, z1, h1⟩ := dic_raw I mr e dv
      obtain rfl := Vals.ref1 r
      have hz : es.size = l.length := by rw [z1, ← r1.length, List.length_map]
      refine sorted_run hu I mr hq r1 (by rw [List.length_map]; exact hl) (fun R hR => ?_) sat
      exact PySem.W.kdu_collect (PySem.KdlSrc.rawDict (es := es) (ep := ep) hs) (I.ok.hd hc) raw (by rw [hz]; exact hl) fun h' tk acc hk hi => hR { s with heap := h', toks := tk } _ ⟨I.kept (t' := tk) hk, vals_raw z1 h1 hi⟩
    · exact cr_sortedL hu pins s σ H xs us Q I r ⟨mu, M, _, mr, dr, sat⟩
  · exact sat.elim
end RI

set_option maxHeartbeats 4000000
namespace RI
open PySem PySem.Spec PyProof.Rows L2 RZ
/-! ### dict(zip(tuple, tuple)) -/
section
variable {prog : Program} {w : World} {A : Around} {E : Value → Shared → Prop} {s : Shared} {z ti to tt i1 i2 l1 l2 : Addr} {fl : Bool} {ob : Obj} {k1 k2 : Nat} {xs ys : Array Value}
/-- the two iterators and what they walk -/
structure TwoIt (h : Heap) (ti i1 i2 l1 l2 : Addr) (k1 k2 : Nat) (xs ys : Array Value) : Prop where
  pr : IsPair h ti (.ref i1) (.ref i2)
  a1 : h.IsTupleIter i1 l1 k1
  a2 : h.IsTupleIter i2 l2 k2
  b1 : h.IsTuple l1 xs
  b2 : h.IsTuple l2 ys
theorem TwoIt.keep {h h' : Heap} (t : TwoIt h ti i1 i2 l1 l2 k1 k2 xs ys) (k : ∀ c o, c = ti ∨ c = i1 ∨ c = i2 ∨ c = l1 ∨ c = l2 → h.get? c = some o → h'.get? c = some o) : TwoIt h' ti i1 i2 l1 l2 k1 k2 xs ys :=
  ⟨k _ _ (.inl rfl) t.pr, t.a1.at fun o e => k _ o (.inr (.inl rfl)) e, t.a2.at fun o e => k _ o (.inr (.inr (.inl rfl))) e, t.b1.at fun o e => k _ o (.inr (.inr (.inr (.inl rfl)))) e, t.b2.at fun o e => k _ o (.inr (.inr (.inr (.inr rfl)))) e⟩
abbrev ZipOut (h : Heap) (z ti to tt : Addr) (fl : Bool) : Prop := IsZipHeld h z ti to tt fl
/-- the next pair, the one before still held -/
theorem out_item {x y : Value} {Q : Value → Shared → Prop} (D : ZipApart z ti to i1 i2 l1 l2) (oz : ZipOut s.heap z ti to tt fl) (ot : s.heap.get? tt = some ob) (t : TwoIt s.heap ti i1 i2 l1 l2 k1 k2 xs ys) (ex : xs[k1]? = some x) (ey : ys[k2]? = some y)
    (q : ∀ h', ZipOut h' z ti to tt true → h'.IsTupleIter i1 l1 (k1 + 1) → h'.IsTupleIter i2 l2 (k2 + 1) → IsPair h' s.heap.objs.size x y → (∀ c o, c ≠ z → c ≠ i1 → c ≠ i2 → s.heap.get? c = some o → h'.get? c = some o) → Q (.ref s.heap.objs.size) { s with heap := h' }) :
    wpAny (model prog w) A (Builtin.«zip.__next__» ⟨[.ref z], []⟩) (fun fin s' => ∃ v, fin = .done (.ret v) ∧ Q v s') E s := by
  change wpAny _ _ (field (.ref z) 2 >>= _) _ _ _
  refine wpAny_bind (wpAny_field oz rfl (x := .bool false) rfl (?_ : wpAny _ _ (field (.ref z) 3 >>= _) _ _ _))
  refine wpAny_bind (wpAny_field oz rfl (x := .ref ti) rfl (wpAny_bind (wpAny_seqItems t.pr rfl (?_ : wpAny _ _ (Builtin.SmallTypes.ownedTupleIsFree (.ref z) >>= _) _ _ _))))
  refine wpAny_bind (wpAny_tupleHeld_zip oz ot fun g1 z1 s1 => ?_)
  simp only [Bool.false_eq_true, if_false]
  refine wpAny_bind (Eq.mp (congrArg (fun t => wpAny (model prog w) A t _ E _) (Array.forIn_toList (xs := _) (b := _) (f := _))) ?_)
  simp only [List.forIn_cons, List.forIn_nil] <;> refine wpAny_bind (wpAny_bind (wpAny_holding (?_ : wpAny _ _ (Builtin.SmallTypes.nextOf (.ref i1) >>= _) _ _ _)))
  refine wpAny_bind (nextOf_tuple_item (s := { s with heap := g1 }) (t.a1.extBut s1.extBut D.i1z) (t.b1.extBut s1.extBut D.l1z) ex fun g2 it1 s2 => wpAny_pure (wpAny_pure ?_))
  refine wpAny_bind (wpAny_bind (wpAny_holding (?_ : wpAny _ _ (Builtin.SmallTypes.nextOf (.ref i2) >>= _) _ _ _)))
  refine wpAny_bind (nextOf_tuple_item (s := { s with heap := g2 }) ((t.a2.extBut s1.extBut D.i2z).extBut s2.extBut D.i12.symm) ((t.b2.extBut s1.extBut D.l2z).extBut s2.extBut D.l2i1) ey fun g3 it2 s3 => wpAny_pure (wpAny_pure (wpAny_pure ?_)))
  change wpAny _ _ (newTuple [x, y] >>= _) _ _ _
  have kk : ∀ c o, c ≠ z → c ≠ i1 → c ≠ i2 → s.heap.get? c = some o → g3.get? c = some o := fun c o c1 c2 c3 e => s3.extBut _ _ c3 (s2.extBut _ _ c2 (s1.extBut _ _ c1 e))
  have sz : g3.objs.size = s.heap.objs.size := by rw [s3.1, s2.1, s1.1]
  have z3 : ZipOut g3 z ti to tt true := s3.extBut _ _ D.i2z.symm (s2.extBut _ _ D.i1z.symm z1)
  refine wpAny_bind (wpAny_newTuple (wpAny_pure ⟨_, rfl, (?_ : Q (.ref g3.objs.size) _)⟩))
  have np : IsPair (g3.push { cls := .type "tuple", data := .seq #[x, y] }) g3.objs.size x y := Heap.get?_push_size _ rfl
  rw [sz] at np ⊢
  exact q _ (Heap.get?_push_of_some _ z3) ((it1.extBut s3.extBut D.i12).at fun o e => Heap.get?_push_of_some _ e) (it2.at fun o e => Heap.get?_push_of_some _ e) np fun c o c1 c2 c3 e => Heap.get?_push_of_some _ (kk c o c1 c2 c3 e)
/-- no pair is left -/
theorem out_end {Q : PySem.Fin → Shared → Prop} (hh : A.handled = none) (D : ZipApart z ti to i1 i2 l1 l2) (oz : ZipOut s.heap z ti to tt fl) (ot : s.heap.get? tt = some ob) (t : TwoIt s.heap ti i1 i2 l1 l2 k1 k2 xs ys) (en : xs[k1]? = none ∨ ys[k2]? = none)
    (q : ∀ h' e, (∀ c o, c ≠ z → c ≠ i1 → c ≠ i2 → s.heap.get? c = some o → h'.get? c = some o) → (∃ o, h'.get? e = some o ∧ o.cls = .type "StopIteration") → E (.ref e) { s with heap := h' }) :
    wpAny (model prog w) A (Builtin.«zip.__next__» ⟨[.ref z], []⟩) Q E s := by
  change wpAny _ _ (field (.ref z) 2 >>= _) _ _ _
  refine wpAny_bind (wpAny_field oz rfl (x := .bool false) rfl (?_ : wpAny _ _ (field (.ref z) 3 >>= _) _ _ _))
  refine wpAny_bind (wpAny_field oz rfl (x := .ref ti) rfl (wpAny_bind (wpAny_seqItems t.pr rfl (?_ : wpAny _ _ (Builtin.SmallTypes.ownedTupleIsFree (.ref z) >>= _) _ _ _))))
  refine wpAny_bind (wpAny_tupleHeld_zip oz ot fun g1 z1 s1 => ?_)
  simp only [Bool.false_eq_true, if_false]
  refine wpAny_bind (Eq.mp (congrArg (fun t => wpAny (model prog w) A t _ E _) (Array.forIn_toList (xs := _) (b := _) (f := _))) ?_)
  simp only [List.forIn_cons, List.forIn_nil] <;> refine wpAny_bind (wpAny_bind (wpAny_holding (?_ : wpAny _ _ (Builtin.SmallTypes.nextOf (.ref i1) >>= _) _ _ _)))
  cases ex : xs[k1]? with
  | none => exact wpAny_bind (nextOf_tuple_end (s := { s with heap := g1 }) hh (t.a1.extBut s1.extBut D.i1z) (t.b1.extBut s1.extBut D.l1z) ex fun g2 e s2 he => q g2 e (fun c o c1 c2 _ x => s2 _ _ c2 (s1.extBut _ _ c1 x)) he)
  | some x =>
    have ey : ys[k2]? = none := en.resolve_left (by rw [ex]; simp)
    refine wpAny_bind (nextOf_tuple_item (s := { s with heap := g1 }) (t.a1.extBut s1.extBut D.i1z) (t.b1.extBut s1.extBut D.l1z) ex fun g2 it1 s2 => wpAny_pure (wpAny_pure ?_))
    refine wpAny_bind (wpAny_bind (wpAny_holding (?_ : wpAny _ _ (Builtin.SmallTypes.nextOf (.ref i2) >>= _) _ _ _)))
    exact wpAny_bind (nextOf_tuple_end (s := { s with heap := g2 }) hh ((t.a2.extBut s1.extBut D.i2z).extBut s2.extBut D.i12.symm) ((t.b2.extBut s1.extBut D.l2z).extBut s2.extBut D.l2i1) ey fun g3 e s3 he => q g3 e (fun c o c1 c2 c3 x => s3 _ _ c3 (s2.extBut _ _ c2 (s1.extBut _ _ c1 x))) he)
theorem out_next {x y : Value} {Q : Option Value → Shared → Prop} (D : ZipApart z ti to i1 i2 l1 l2) (oz : ZipOut s.heap z ti to tt fl) (ot : s.heap.get? tt = some ob) (t : TwoIt s.heap ti i1 i2 l1 l2 k1 k2 xs ys) (ex : xs[k1]? = some x) (ey : ys[k2]? = some y)
    (q : ∀ h', ZipOut h' z ti to tt true → h'.IsTupleIter i1 l1 (k1 + 1) → h'.IsTupleIter i2 l2 (k2 + 1) → IsPair h' s.heap.objs.size x y → (∀ c o, c ≠ z → c ≠ i1 → c ≠ i2 → s.heap.get? c = some o → h'.get? c = some o) → Q (some (.ref s.heap.objs.size)) { s with heap := h' }) :
    wpAny (model prog w) A (pyNext (.ref z)) Q E s := by
  have ty : s.TypeIs (.ref z) "zip" := ⟨_, oz, rfl⟩
  rw [pyNext]
  refine wpAny_bind (wpAny_attempt (wpAny_callSpecial?_slot (name := Str.ofString "__next__") ty F.slot_zip_next ?_))
  exact wpAny_call_entry F.slot_zip_next ty F.entry_zip_next (out_item D oz ot t ex ey fun h' b1 b2 b3 b4 b5 => wpAny_pure (q h' b1 b2 b3 b4 b5)) (F.args_zip_next_1 _)
theorem out_stop {Q : Option Value → Shared → Prop} (hh : A.handled = none) (D : ZipApart z ti to i1 i2 l1 l2) (oz : ZipOut s.heap z ti to tt fl) (ot : s.heap.get? tt = some ob) (t : TwoIt s.heap ti i1 i2 l1 l2 k1 k2 xs ys) (en : xs[k1]? = none ∨ ys[k2]? = none)
    (q : ∀ h', (∀ c o, c ≠ z → c ≠ i1 → c ≠ i2 → s.heap.get? c = some o → h'.get? c = some o) → Q none { s with heap := h' }) : wpAny (model prog w) A (pyNext (.ref z)) Q E s := by
  have ty : s.TypeIs (.ref z) "zip" := ⟨_, oz, rfl⟩
  rw [pyNext]
  refine wpAny_bind (wpAny_attempt (wpAny_callSpecial?_slot (name := Str.ofString "__next__") ty F.slot_zip_next ?_))
  refine wpAny_call_entry F.slot_zip_next ty F.entry_zip_next (out_end hh D oz ot t en fun h' e hk he => ?_) (F.args_zip_next_1 _)
  obtain ⟨o, ho, hc⟩ := he
  exact wpAny_bind (wpAny_isInstance (T := "StopIteration") (b := true) ⟨o, ho, hc⟩ isSubtype_stop (wpAny_pure (q _ hk)))
end
section
variable {prog : Program} {w : World}
/-- zip of two tuples as what a dict is made of -/
theorem zipT_pairs (z ti to i1 i2 l1 l2 : Addr) (D : ZipApart z ti to i1 i2 l1 l2) (xs ys : Array Value) :
    PairArg prog w "zip" z [z, ti, to, i1, i2, l1, l2] [z, to, i1, i2] (min xs.size ys.size) (fun i k v => xs[i]? = some k ∧ ys[i]? = some v) (fun h => IsZip h z ti to .none ∧ TwoIt h ti i1 i2 l1 l2 0 0 xs ys ∧ ∃ a b, IsPair h to a b) where
  type := fun s ok => ⟨_, ok.1, rfl⟩
  notDict := by decide
  keep := fun h h' ok hk => ⟨hk _ _ ok.1, ok.2.1.keep fun c o _ e => hk c o e, let ⟨a, b, e⟩ := ok.2.2; ⟨a, b, hk _ _ e⟩⟩
  there := fun h ok b hb => by
    obtain ⟨hz, t, a, c, ht⟩ := ok
    obtain ⟨⟨o1, e1, _⟩, ⟨o2, e2, _⟩, ⟨o3, e3, _⟩, ⟨o4, e4, _⟩⟩ := (⟨t.a1, t.a2, t.b1, t.b2⟩ : _ ∧ _ ∧ _ ∧ _)
    simp only [List.mem_cons, List.not_mem_nil, or_false] at hb
    rcases hb with rfl | rfl | rfl | rfl | rfl | rfl | rfl
    · exact ⟨_, hz⟩
    · exact ⟨_, t.pr⟩
    · exact ⟨_, ht⟩
    · exact ⟨_, e1⟩
    · exact ⟨_, e2⟩
    · exact ⟨_, e3⟩
    · exact ⟨_, e4⟩
  sub := fun b hb => by
    simp only [List.mem_cons, List.not_mem_nil, or_false] at hb ⊢
    rcases hb with rfl | rfl | rfl | rfl <;> simp
  noKeys := fun A s Q E hA ok h => getAttrOr_miss_zip ok.1 rfl rfl rfl zip_no_keys (by decide +kernel) hA h
  iter := fun A s d Q E hA ok hd hdf h => by
    obtain ⟨hz, t, a, b, ht⟩ := ok
    simp only [List.mem_cons, List.not_mem_nil, or_false, not_or] at hdf
    obtain ⟨dz, d1, d2, d3, d4, d5, d6⟩ := hdf
    let St : Nat → Heap → Prop := fun i h => TwoIt h ti i1 i2 l1 l2 i i xs ys ∧ ((IsZip h z ti to .none ∧ ∃ a b, IsPair h to a b) ∨ ∃ T f o, ZipOut h z ti to T f ∧ h.get? T = some o ∧ T ≠ z ∧ T ≠ i1 ∧ T ≠ i2 ∧ T ≠ d)
    refine wpAny_pyIter_zip hz (h z [z, to, i1, i2] St s.heap s.toks ?src ⟨t, .inl ⟨hz, a, b, ht⟩⟩ (fun _ _ e => e) fun b hb => .inl hb)
    have lt : ∀ {g : Heap} {c o}, g.get? c = some o → g.objs.size ≠ c := fun e => Nat.ne_of_gt (Heap.lt_size e)
    refine ⟨fun hm => ?_, fun i g1 g2 st hk => ?_, fun i s1 Q1 E1 hi st hds hQ => ?_, fun s1 Q1 E1 st hQ => ?_⟩
    · simp only [List.mem_cons, List.not_mem_nil, or_false] at hm
      rcases hm with e | e | e | e
      · exact dz e
      · exact d2 e
      · exact d3 e
      · exact d4 e
    · obtain ⟨t, zz⟩ := st
      refine ⟨t.keep fun c o hc e => hk c o (by rcases hc with rfl | rfl | rfl | rfl | rfl <;> exact Ne.symm ‹_›) e, ?_⟩
      rcases zz with ⟨zz, a, b, tt⟩ | ⟨T, f, o, zz, tt, r1, r2, r3, r4⟩
      · exact .inl ⟨hk _ _ (Ne.symm dz) zz, a, b, hk _ _ (Ne.symm d2) tt⟩
      · exact .inr ⟨T, f, o, hk _ _ (Ne.symm dz) zz, hk _ _ r4 tt, r1, r2, r3, r4⟩
    · obtain ⟨t, zz⟩ := st
      have ex := Array.getElem?_eq_getElem (Nat.lt_of_lt_of_le hi (Nat.min_le_left xs.size ys.size))
      have ey := Array.getElem?_eq_getElem (Nat.lt_of_lt_of_le hi (Nat.min_le_right xs.size ys.size))
      have n1 : s1.heap.objs.size ≠ i1 := let ⟨_, e, _⟩ := t.a1; lt e
      have n2 : s1.heap.objs.size ≠ i2 := let ⟨_, e, _⟩ := t.a2; lt e
      rcases zz with ⟨zz, a, b, tt⟩ | ⟨T, f, o, zz, tt, r1, r2, r3, r4⟩
      · refine pyNext_zipT_item D zz t.pr tt t.a1 t.a2 t.b1 t.b2 ex ey fun h' c1 c2 c3 c4 c5 c6 hk => ?_
        refine hQ s1.heap.objs.size _ _ h' s1.toks ⟨ex, ey⟩ (.inl ⟨_, c5, rfl, _, rfl⟩) ⟨⟨hk _ _ D.TIz D.TITO D.TIi1 D.TIi2 t.pr, c3, c4, t.b1.at fun o e => hk _ o D.l1z D.l1TO D.l1i1 D.l1i2 e, t.b2.at fun o e => hk _ o D.l2z D.l2TO D.l2i1 D.l2i2 e⟩,
          .inr ⟨s1.heap.objs.size, false, _, c1, c5, lt zz, n1, n2, Nat.ne_of_gt hds⟩⟩ fun c o hc e => ?_
        simp only [List.mem_cons, List.not_mem_nil, or_false, not_or] at hc
        exact hk c o hc.1 hc.2.1 hc.2.2.1 hc.2.2.2 e
      · refine out_next D zz tt t ex ey fun h' c1 c3 c4 c5 hk => ?_
        refine hQ s1.heap.objs.size _ _ h' s1.toks ⟨ex, ey⟩ (.inl ⟨_, c5, rfl, _, rfl⟩) ⟨⟨hk _ _ D.TIz D.TIi1 D.TIi2 t.pr, c3, c4, t.b1.at fun o e => hk _ o D.l1z D.l1i1 D.l1i2 e, t.b2.at fun o e => hk _ o D.l2z D.l2i1 D.l2i2 e⟩,
          .inr ⟨T, true, o, c1, hk _ _ r1 r2 r3 tt, r1, r2, r3, r4⟩⟩ fun c o hc e => ?_
        simp only [List.mem_cons, List.not_mem_nil, or_false, not_or] at hc
        exact hk c o hc.1 hc.2.2.1 hc.2.2.2 e
    · obtain ⟨t, zz⟩ := st
      have en : xs[min xs.size ys.size]? = none ∨ ys[min xs.size ys.size]? = none := by
        rcases Nat.le_total xs.size ys.size with g | g
        · exact .inl (Array.getElem?_eq_none (by omega))
        · exact .inr (Array.getElem?_eq_none (by omega))
      rcases zz with ⟨zz, a, b, tt⟩ | ⟨T, f, o, zz, tt, r1, r2, r3, r4⟩
      · refine pyNext_zipT_end hA D zz t.pr tt t.a1 t.a2 t.b1 t.b2 en fun h' hk => hQ h' s1.toks fun c o hc e => ?_
        simp only [List.mem_cons, List.not_mem_nil, or_false, not_or] at hc
        exact hk c o hc.1 hc.2.1 hc.2.2.1 hc.2.2.2 e
      · refine out_stop hA D zz tt t en fun h' hk => hQ h' s1.toks fun c o hc e => ?_
        simp only [List.mem_cons, List.not_mem_nil, or_false, not_or] at hc
        exact hk c o hc.1 hc.2.2.1 hc.2.2.2 e
end
end RI

set_option maxHeartbeats 4000000
namespace RI
open PySem PySem.Spec PyProof.Rows L2
/-! ### sets of numbers and texts: what stands in them, in some order -/
theorem each_perm {α β : Type} {R : α → β → Prop} {as as' : List α} (p : as'.Perm as) : ∀ {bs : List β}, PySem.W.EachIs R as bs → ∃ bs', PySem.W.EachIs R as' bs' ∧ bs'.Perm bs := by
  induction p with
  | nil => intro bs h; cases h; exact ⟨[], .nil, .nil⟩
  | cons x _ ih =>
    intro bs h
    cases h with
    | cons h1 h2 =>
      obtain ⟨bs', g1, g2⟩ := ih h2
      exact ⟨_ :: bs', .cons h1 g1, g2.cons _⟩
  | swap x y l =>
    intro bs h
    cases h with
    | cons h1 h2 => cases h2 with
      | cons h3 h4 => exact ⟨_ :: _ :: _, .cons h3 (.cons h1 h4), .swap _ _ _⟩
  | trans _ _ ih1 ih2 =>
    intro bs h
    obtain ⟨b1, g1, g2⟩ := ih2 h
    obtain ⟨b2, g3, g4⟩ := ih1 g1
    exact ⟨b2, g3, g4.trans g2⟩
section
variable {P : Program} {w : World} {K : Type} [DecidableEq K] (knd : KeyKind P w K)
abbrev LedW (w : World) (t : SetTable) : Prop := w.params.followText "set-order" = true ∨ t.led = true
structure SetG (h : Heap) (a : Addr) (o : Obj) (es : Array (Int × Value)) (ep : Nat) (t : SetTable) (ks : List K) : Prop where
  ob : h.get? a = some o
  ex : o.ExactSet
  dat : o.data = .set es ep t
  el : ElemsOf knd es.toList
  each : PySem.W.EachIs (fun (e : Int × Value) k => knd.is k e.2 = true) es.toList ks
  few : es.size < scanBound
  fit : t.fits es.size = true
  ris : Ris t.place.toList
  led : LedW w t
/-- the set at a holds just the keys of l -/
def SetL (h : Heap) (a : Addr) (l : List K) : Prop := ∃ o es ep t ks, SetG knd h a o es ep t ks ∧ ks.Perm l
def addK (l : List K) (k : K) : List K := if k ∈ l then l else l ++ [k]
variable {knd}
theorem each_mem {es : List (Int × Value)} {ks : List K} (h : PySem.W.EachIs (fun (e : Int × Value) k => knd.is k e.2 = true) es ks) (k : K) : k ∈ ks ↔ ∃ e ∈ es, knd.is k e.2 = true := by
  induction h with
  | nil => simp
  | @cons e k' es ks h1 _ ih =>
    simp only [List.mem_cons, ih]
    constructor
    · rintro (rfl | ⟨e', h, q⟩)
      · exact ⟨e, .inl rfl, h1⟩
      · exact ⟨e', .inr h, q⟩
    · rintro ⟨e', rfl | h, q⟩
      · exact .inl (by rw [KeyKind.is_eq_decide h1 k] at q; simpa using q)
      · exact .inr ⟨e', h, q⟩
theorem each_size {es : Array (Int × Value)} {ks : List K} (h : PySem.W.EachIs (fun (e : Int × Value) k => knd.is k e.2 = true) es.toList ks) : es.size = ks.length := by
  rw [← Array.length_toList]
  generalize es.toList = l at h
  induction h with
  | nil => rfl
  | cons _ _ ih => simp [ih]
variable {A : Around} {E : Value → Shared → Prop} {s : Shared} {a : Addr} {l : List K}
theorem SetL.at (R : SetL knd h a l) (k : ∀ o, h.get? a = some o → h'.get? a = some o) : SetL knd h' a l := by
  obtain ⟨o, es, ep, t, ks, g, p⟩ := R
  exact ⟨o, es, ep, t, ks, { g with ob := k o g.ob }, p⟩
theorem setG_tail {f : Bool → Sem Unit} (hf : ∀ (b : Bool) (s1 : Shared) (Q' : Unit → Shared → Prop), Q' () s1 → wpAny (model P w) A (f b) Q' E s1) {o : Obj} {es es1 : Array (Int × Value)} {ep : Nat} {t t1 : SetTable} {ks : List K}
    (h0 : s.heap.get? a = some o) (hx : o.ExactSet) (hd : o.data = .set es ep t) (h1 : ElemsOf knd es1.toList) (h2 : PySem.W.EachIs (fun (e : Int × Value) k => knd.is k e.2 = true) es1.toList ks) (h3 : es1.size < scanBound) (h4 : t1.fits es1.size = true) (h5 : Ris t1.place.toList) (h6 : LedW w t1)
    {dm : Bool} {R : Option Bool → Shared → Prop} (hR : ∀ h', Heap.SameBut a s.heap h' → SetL knd h' a ks → R (some true) { s with heap := h' }) :
    wpAny (model P w) A (do
      storeSet a es1 t1
      if (!dm && t1.tooFull) = true then do
        f (relayAll t1 es1 (SetTable.grown es1.size)).2.2
        storeSet a (relayAll t1 es1 (SetTable.grown es1.size)).1 (relayAll t1 es1 (SetTable.grown es1.size)).2.1
        pure (some true)
      else pure (some true)) R E s := by
  have b1 := Heap.SameBut.update s.heap a (Obj.putSet es1 t1)
  have g1 := store_at (es' := es1) (t' := t1) h0 hd
  refine wpAny_bind (wpAny_storeSet_of h0 hd ?_ (fits_of_scanBound h3))
  split
  · have q1 := relayAll_perm t1 es1 (SetTable.grown es1.size)
    have q2 := relayAll_fits t1 es1 (SetTable.grown es1.size)
    have q3 := relayAll_ris t1 es1 (SetTable.grown es1.size)
    have q4 := relayAll_led t1 es1 (SetTable.grown es1.size)
    revert q1 q2 q3 q4
    generalize relayAll t1 es1 (SetTable.grown es1.size) = Y
    obtain ⟨es2, t2, gv⟩ := Y
    intro q1 q2 q3 q4
    dsimp only at q1 q2 q3 q4 ⊢
    have hz : es2.size = es1.size := by simpa using q1.length_eq
    obtain ⟨ks2, e2, p2⟩ := each_perm q1 h2
    refine wpAny_bind (hf _ _ _ (wpAny_bind (wpAny_storeSet_of g1 rfl (wpAny_pure (hR _ (b1.trans (Heap.SameBut.update _ a _)) ?_)) (fits_of_scanBound (hz ▸ h3)))))
    exact ⟨_, es2, _, t2, ks2, ⟨store_at (es' := es2) (t' := t2) g1 rfl, hx, rfl, fun e he => h1 e (q1.mem_iff.mp he), e2, hz ▸ h3, q2, q3, h6.imp id fun z => q4.trans z⟩, p2⟩
  · exact wpAny_pure (hR _ b1 ⟨_, es1, _, t1, ks, ⟨g1, hx, rfl, h1, h2, h3, h4, h5, h6⟩, .refl _⟩)
theorem setG_add {k : K} {v : Value} {Q : Bool → Shared → Prop} (hk : knd.is k v = true) (hsc : v.scannable = true) (R : SetL knd s.heap a l) (room : l.length + 1 < scanBound) (hQ : ∀ h' b, Heap.SameBut a s.heap h' → SetL knd h' a (addK l k) → Q b { s with heap := h' }) :
    wpAny (model P w) A (setAddHashed a v (knd.hash k)) Q E s := by
  obtain ⟨o, es, ep, t, ks, g, pl⟩ := R
  have hmem : k ∈ l ↔ k ∈ ks := pl.mem_iff.symm
  unfold setAddHashed setAddHashedIn
  refine wpAny_holding (wpAny_bind (wpAny_setState_of g.ob g.dat g.fit ?_))
  dsimp only
  rw [byScan_of hsc g.few g.el]
  simp only [↓reduceIte]
  unfold setAddByScan
  refine wpAny_bind (wpAny_bind (wpAny_rule (wpAny_bind (wpAny_setScan_of hk g.ob g.dat g.fit g.el ?_))))
  cases hfi : List.findIdx? (fun e => knd.is k e.2) es.toList with
  | some j =>
    obtain ⟨hj, pj, _⟩ := List.findIdx?_eq_some_iff_getElem.mp hfi
    have hin : k ∈ l := hmem.mpr ((each_mem g.each k).mpr ⟨es.toList[j], List.getElem_mem hj, pj⟩)
    refine wpAny_pure (wpAny_pure (hQ s.heap _ (Heap.SameBut.refl a s.heap) ?_))
    rw [addK, if_pos hin]
    exact ⟨o, es, ep, t, ks, g, pl⟩
  | none =>
    have nin : k ∉ l := fun z => by
      obtain ⟨e, he, q⟩ := (each_mem g.each k).mp (hmem.mp z)
      have := List.findIdx?_eq_none_iff.mp hfi e he
      rw [q] at this; cases this
    have gw : ∀ (b : Bool) {s1 : Shared} {Q' : Unit → Shared → Prop}, Q' () s1 → wpAny (model P w) A (match b with | true => rule "set.scan.the-table-gave-way" | false => pure ()) Q' E s1 := by
      intro b s1 Q' q
      cases b
      · exact wpAny_pure q
      · exact wpAny_rule q
    have q1 := layNew_perm t es (knd.hash k) v
    have q2 := layNew_fits t es (knd.hash k) v
    have q3 := layNew_ris t es (knd.hash k) v g.ris
    have q4 := layNew_led t es (knd.hash k) v
    dsimp only
    revert q1 q2 q3 q4
    generalize layNew t es (knd.hash k) v = Y
    obtain ⟨es1, t1, dm, gv⟩ := Y
    intro q1 q2 q3 q4
    dsimp only at q1 q2 q3 q4 ⊢
    rw [Array.toList_push] at q1
    have pc : es1.toList.Perm ((knd.hash k, v) :: es.toList) := q1.trans (List.perm_append_singleton _ _)
    obtain ⟨ks1, e1, p1⟩ := each_perm pc (.cons (R := fun (e : Int × Value) k => knd.is k e.2 = true) (a := (knd.hash k, v)) (b := k) hk g.each)
    have el1 : ElemsOf knd es1.toList := fun e he => by
      rcases List.mem_cons.mp (pc.mem_iff.mp he) with z | z
      · rw [z]; exact ⟨⟨k, hk, rfl⟩, hsc⟩
      · exact g.el e z
    have pl1 : ks1.Perm (addK l k) := by
      rw [addK, if_neg nin]
      exact p1.trans ((pl.cons k).trans (List.perm_append_singleton k l).symm)
    have hz : es1.size < scanBound := by
      rw [each_size e1, pl1.length_eq, addK, if_neg nin, List.length_append]
      exact room
    have led1 : LedW w t1 := g.led.imp id fun z => q4.trans z
    have fin : ∀ h', Heap.SameBut a s.heap h' → SetL knd h' a ks1 → Q true { s with heap := h' } := fun h' sb ⟨o', es', ep', t', ks', g', p'⟩ => hQ h' true sb ⟨o', es', ep', t', ks', g', p'.trans pl1⟩
    refine wpAny_bind (gw _ ?_)
    split
    · rw [hashByValue_scannable 8 hsc]
      refine wpAny_bind (wpAny_pure (setG_tail (fun b s1 Q' q => gw b q) g.ob g.ex g.dat el1 e1 hz ?_ ?_ ?_ fun h' sb r => ?_))
      · split
        · exact q2
        · exact SetTable.fits_plain_off q2
      · split <;> exact q3
      · split <;> exact led1
      · exact wpAny_pure (fin h' sb r)
    · refine wpAny_bind (wpAny_pure ?_)
      simp only [↓reduceIte]
      refine setG_tail (fun b s1 Q' q => gw b q) g.ob g.ex g.dat el1 e1 hz q2 q3 led1 fun h' sb r => ?_
      exact wpAny_pure (fin h' sb r)
/-! ### set(tuple) -/
def firstK (ks : List K) : List K := ks.foldl addK []
theorem addK_len (l : List K) (k : K) : (addK l k).length ≤ l.length + 1 := by
  unfold addK
  split <;> simp
theorem foldK_len : ∀ (ks l : List K), (ks.foldl addK l).length ≤ l.length + ks.length
  | [], l => by simp
  | k :: ks, l => by
    have h1 := foldK_len ks (addK l k)
    have h2 := addK_len l k
    simp only [List.foldl_cons, List.length_cons]
    omega
theorem takeK (ks : List K) (i : Nat) {k : K} (h : ks[i]? = some k) : (ks.take (i + 1)).foldl addK [] = addK ((ks.take i).foldl addK []) k := by
  rw [List.take_add_one, h]
  simp
theorem set_loop {I : Addr} {fp wr : List Addr} {G : Array GenState → Array GenState → Prop} {n : Nat} {Pv : Nat → Value → Prop} {St : Nat → Shared → Prop} {R : Result → Shared → Prop}
    (W : WalksS P w A.in1 I fp wr G n Pv St) (d : Addr) (hd : d ∉ fp) (ks : List K) (hn : n = ks.length) (hb : ks.length + 1 < scanBound) (hv : ∀ i v, Pv i v → ∃ k, ks[i]? = some k ∧ knd.is k v = true ∧ v.scannable = true) :
    ∀ (m i : Nat) (s : Shared), n - i = m → i ≤ n → St i s → SetL knd s.heap d ((ks.take i).foldl addK []) → (∀ s', Moved (d :: wr) G s s' → SetL knd s'.heap d (firstK ks) → R (.ok (.ret .none)) s') →
      codeAny (model P w) A (.builtin "set.update.loop" ⟨[.ref d, .ref I], []⟩) R s := by
  have dw : d ∉ wr := fun h => hd (W.sub _ h)
  intro m
  induction m with
  | zero =>
    intro i s hm hi st hS hR
    have e : i = n := by omega
    subst e
    refine codeAny_builtin F.entry_set_update_loop ?_
    rw [Around.under_plainId F.plain_set_update_loop _]
    change wpAny _ A.in1 (pyNext (.ref I) >>= _) _ _ s
    refine wpAny_bind (W.done s _ _ st fun s' mv => (?_ : wpAny _ A.in1 (ret Value.none) _ _ s'))
    rw [List.take_of_length_le (by omega)] at hS
    exact wpAny_pure (hR s' (mv.mono fun b h => List.mem_cons_of_mem _ h) (hS.at fun o e => mv.heap d o dw e))
  | succ m ih =>
    intro i s hm hi st hS hR
    have lt : i < n := by omega
    refine codeAny_builtin F.entry_set_update_loop ?_
    rw [Around.under_plainId F.plain_set_update_loop _]
    change wpAny _ A.in1 (pyNext (.ref I) >>= _) _ _ s
    refine wpAny_bind (W.item i s _ _ lt st fun v s' hP st' mv => ?_)
    obtain ⟨k, ek, hk, hsc⟩ := hv i v hP
    have S1 : SetL knd s'.heap d ((ks.take i).foldl addK []) := hS.at fun o e => mv.heap d o dw e
    have hl : ((ks.take i).foldl addK []).length + 1 < scanBound := by
      have h1 := foldK_len (ks.take i) ([] : List K)
      have h2 : (ks.take i).length ≤ ks.length := List.length_take_le' i ks
      simp only [List.length_nil] at h1
      omega
    change wpAny _ A.in1 (holding [v] (setAdd d v) >>= _) _ _ s'
    refine wpAny_bind (wpAny_holding ?_)
    rw [setAdd]
    refine wpAny_holding (wpAny_bind (knd.pyHash (k := k) hk ?_))
    refine setG_add (s := { s' with toks := s'.toks + 1 }) hk hsc S1 hl fun h' b sb S2 => ?_
    rw [← takeK ks i ek] at S2
    refine wpAny_pure ⟨plainId_quiet F.plain_set_update_loop _, ih (i + 1) _ (by omega) lt (W.frame _ s' _ _ st' (Nat.le_succ _) fun b hb o e => ?_) S2 fun s2 mv2 S3 => ?_⟩
    · exact (sb.2 b (fun z => hd (z ▸ hb))).trans e
    · refine hR s2 (Moved.trans W.gtrans ((mv.mono fun b h => List.mem_cons_of_mem _ h).then_heap (Nat.le_succ _) fun b o hb e => ?_) mv2) S3
      exact (sb.2 b (fun z => hb (z ▸ List.mem_cons_self))).trans e
end
end RI

set_option maxHeartbeats 4000000
namespace RI
open PySem PySem.Spec PyProof.Rows L2
section
variable {P : Program} {w : World} {K : Type} [DecidableEq K] {knd : KeyKind P w K} {A : Around} {E : Value → Shared → Prop} {s : Shared}
abbrev freshSet (w : World) : Obj := { cls := .type "set", dict := none, data := .set #[] 0 (.fresh 0 0 (!w.params.followText "set-order")) }
theorem setL_fresh {h : Heap} {a : Addr} (e : h.get? a = some (freshSet w)) : SetL knd h a ([] : List K) :=
  ⟨_, #[], 0, _, [], ⟨e, ⟨rfl, rfl, rfl⟩, rfl, fun x hx => by simp at hx, .nil, by decide, rfl, List.Pairwise.nil, by
    show _ ∨ (!w.params.followText "set-order") = true
    cases w.params.followText "set-order" <;> simp⟩, .refl _⟩
set_option maxHeartbeats 3200000 in
theorem call_set_tup {l : Addr} {its : Array Value} (ks : List K) {Q : Value → Shared → Prop} (hh : A.handled = none) (hl : s.heap.IsTuple l its) (hz : its.size = ks.length) (hv : ∀ (i : Nat) (v : Value), its[i]? = some v → ∃ k : K, ks[i]? = some k ∧ knd.is k v = true ∧ v.scannable = true) (hb : ks.length + 1 < scanBound)
    (q : ∀ (h' : Heap) (tk : Nat), SetL knd h' s.heap.objs.size (firstK ks) → (∀ b o, s.heap.get? b = some o → h'.get? b = some o) → Q (.ref s.heap.objs.size) { s with heap := h', toks := tk }) :
    wpAny (model P w) A (call (.type "set") [.ref l]) Q E s := by
  obtain ⟨c, tl, hmro⟩ := F.called_set.mro
  have hmade := F.called_set.made
  have hsub := F.called_set.sub
  refine wpAny_call (codeAny_of_tree (?_ : wpAny _ _ (callAny (.type "set") _) _ _ _))
  refine wpAny_pure ⟨Code.quiet_builtin _ (by decide +kernel), codeAny_builtin F.entry_type_call ?_⟩
  rw [Around.under_plain (weight_type_call_type "set" [.ref l] []) rfl]
  have h1 := F.called_set.notType
  have h2 := F.called_set.canCreate
  have hct := F.typeCall_set_1 (.ref l)
  repeat (any_goals (first | assumption | wp_step))
  refine codeAny_mono (code_set_led1 (.ref l) (E := E) (Q₁ := fun ob s1 => ob = .ref s.heap.objs.size ∧ s1 = { s with heap := s.heap.push (freshSet w) }) ⟨rfl, rfl⟩) fun r s1 hr => ?_
  cases r with
  | error e => exact hr
  | ok fl =>
    cases fl with
    | ret ob =>
      obtain ⟨rfl, rfl⟩ := hr
      have nS : (s.heap.push (freshSet w)).get? s.heap.objs.size = some (freshSet w) := Heap.get?_push_size _ rfl
      have tS : Shared.TypeIs { s with heap := s.heap.push (freshSet w) } (.ref s.heap.objs.size) "set" := ⟨_, nS, rfl⟩
      have hli := F.called_set.init.lookup
      have hbi := F.called_set.init.bind (.ref s.heap.objs.size)
      repeat (any_goals (first | assumption | wp_step))
      refine codeAny_mono (codeAny_call_builtin (R := wants (fun r s2 => r = .none ∧ ∃ h' tk, s2 = { s with heap := h', toks := tk } ∧ SetL knd h' s.heap.objs.size (firstK ks) ∧ ∀ b o, s.heap.get? b = some o → h'.get? b = some o) E) F.called_set.init.plain F.entry_set_init (check_set_init_1 tS ?_)) fun r2 s2 hr2 => ?_
      · obtain ⟨⟨c0, d0, a0, s0⟩, hol, hcl, nl, hdl⟩ := hl
        simp only at hcl hdl
        subst hcl; subst hdl
        have hol' : (s.heap.push (freshSet w)).get? l = some { cls := .type "tuple", dict := d0, data := .seq its nl, slots := s0 } := Heap.get?_push_of_some _ hol
        have hsls := F.sub_tuple_set
        have hslf := F.sub_tuple_frozenset
        have hne : (Value.type "tuple" == Value.type "dict") = false := by decide
        have hl1 : (s.heap.push (freshSet w)).IsTuple l its := ⟨_, hol', rfl, nl, rfl⟩
        unfold Builtin.«set.__init__» noKeywords Builtin.Frozenset.updateFrom
        generalize hPI : pyIter = PI
        wp_walk
        subst hPI
        refine wpAny_pyIter_tuple hl1 (wpAny_bind (wpAny_runValue ?_))
        have hlS : l < s.heap.objs.size := Heap.lt_size hol
        have hh3 : A.in1.in1.in1.handled = none := by simp [hh]
        have sz : (s.heap.push (freshSet w)).objs.size = s.heap.objs.size + 1 := Heap.size_push ..
        have hnI : l ≠ (s.heap.push (freshSet w)).objs.size := by rw [sz]; exact Nat.ne_of_lt (Nat.lt_succ_of_lt hlS)
        have hSf : s.heap.objs.size ∉ [(s.heap.push (freshSet w)).objs.size, l] := by
          rw [sz]; simp only [List.mem_cons, List.not_mem_nil, or_false, not_or]
          exact ⟨Nat.ne_of_lt (Nat.lt_succ_self _), Nat.ne_of_gt hlS⟩
        refine set_loop (knd := knd) ((Walks.tuple hh3 _ l hnI its).toS) s.heap.objs.size hSf ks hz hb hv (its.size - 0) 0 _ rfl (Nat.zero_le _) ⟨⟨_, Heap.get?_push_size _ rfl, rfl, rfl⟩, hl1.push _⟩ (setL_fresh (Heap.get?_push_of_some _ nS)) fun s' mv hS' => ?_
        obtain ⟨h', g2, d', tk', os'⟩ := s'
        have eg : g2 = s.gens := mv.gens
        have ed : d' = s.drawn := mv.drawn
        have eo : os' = s.os := mv.os
        subst eg; subst ed; subst eo
        change wpAny _ _ _ _ _ _
        refine wpAny_pure (?_ : wpAny _ _ (ret Value.none) _ _ _)
        refine wpAny_pure ⟨rfl, h', tk', rfl, hS', fun b o e => ?_⟩
        have b0 : b < s.heap.objs.size := Heap.lt_size e
        refine mv.heap b o (fun z => ?_) (Heap.get?_push_of_some _ (Heap.get?_push_of_some _ e))
        rcases List.mem_cons.mp z with z | z
        · exact Nat.ne_of_lt b0 z
        · have z := List.mem_singleton.mp z
          rw [sz] at z
          exact Nat.ne_of_lt (Nat.lt_succ_of_lt b0) z
      · cases r2 with
        | error e => exact hr2
        | ok fl2 =>
          cases fl2 with
          | ret r =>
            obtain ⟨rfl, h', tk, rfl, hS', hk'⟩ := hr2
            repeat (any_goals (first | assumption | wp_step))
            exact q _ _ hS' hk'
          | _ => exact hr2.elim
    | _ => exact hr.elim
end
end RI

set_option maxHeartbeats 4000000
namespace RI
open PySem PySem.Spec PyProof.Rows L2
variable {T : Tb} {C : CC}

/-! ### append -/
def appD (o v : D) (M : Mem) : Res D := match o with
  | .obj j => match M[j]? with
    | some (.lst l) => if l.length < LIM ∧ D.bel j v = true then .ok .non (M.set j (.lst (l ++ [v]))) else .bad
    | _ => .bad
  | _ => .bad
def mApp (mo mv : ME) : ME := fun F r M => (mo F r M).bind fun o M1 => match o with
  | .obj j => match M1[j]? with
    | some (.lst _) => (mv F r M1).bind fun v M2 => (appD o v M2).noX
    | _ => .bad
  | _ => .bad
def noSuper : Expr → Bool
  | .Call .. => false
  | _ => true
theorem noSuper_base {o : Expr} {a : Str} {env : Env} {w : Sem Value} (h : noSuper o = true) : attributeBase o a env w = w := by
  cases o <;> first | rfl | cases h
theorem few_of {env : Env} {cpos : Pos} {e : Expr} (hs : noStar e = true) : ((backTo cpos (starEach [e] env)).all (fun x => !x.1) && (backToKw cpos (keywordEach [] env)).all (fun x => x.1.isSome)
      && decide (([e] : List Expr).length + ([] : List Keyword).length + (if ([] : List Keyword).isEmpty then 0 else 1) < 30)) = true := by
  rw [noStar_each hs]; rfl
theorem ok_append {o e : Expr} {name : Str} {apos cpos : Pos} {mo mv : ME} (hn : name = "append") (hb : noSuper o = true) (hl : (apos.endLine == cpos.line) = true) (hs : noStar e = true) (ho : OkE T C o mo) (he : OkE T C e mv) : OkE T C (.Call (.Attribute o name apos) [e] [] cpos) (mApp mo mv) := by
  intro n X wx h
  subst hn
  refine PE.of (pe_bm PySem.F.plainAttrs_list PySem.F.slot_list_append PySem.F.type_list_append mt_append (ho n X wx h) (pa_cons (he n X wx h) pa_nil (noStar_each hs)) (noSuper_base hb) (few_of hs) hl (noStar_each hs) (by rfl)) fun s H Q q => ?_
  obtain ⟨mu, M, r, mr, sr, sat⟩ := q
  refine ⟨mu, M, r, mr, sr, sat.bind.imp fun d M1 W1 l1 m1 s1 v dv => ?_⟩
  cases d with
  | obj j =>
    simp only [DRel] at dv
    obtain ⟨a, rfl, ha⟩ := dv
    cases e1 : M1[j]? with
    | none => simp only [e1] at s1; exact s1.elim
    | some o1 =>
    cases o1 with
    | dct _ l0 => simp only [e1] at s1; exact s1.elim
    | dks _ l0 => simp only [e1] at s1; exact s1.elim
    | ins _ l0 => simp only [e1] at s1; exact s1.elim
    | lst l0 =>
      simp only [e1] at s1
      obtain ⟨xs0, eh0, _, _⟩ := m1.obj j a _ ha e1
      refine ⟨.inl ⟨rfl, xs0, SqL.of eh0⟩, W1.mu, M1, r, m1, sr.le l1, (Sat.bind s1).imp fun w M2 W2 l2 m2 s2 wv dw => ?_⟩
      have s2 := s2.noX
      unfold appD at s2
      simp only at s2
      split at s2
      · rename_i l e2
        obtain ⟨⟨hz, hb⟩, s2⟩ := sat_ite s2
        have ha2 : W2.mu.l[j]? = some a := by
          have := DRel.le (K := kb X) l2 (.obj j) (.ref a) (by simp only [DRel]; exact ⟨a, rfl, ha⟩)
          simp only [DRel] at this
          obtain ⟨b, eb, hb⟩ := this
          cases eb; exact hb
        obtain ⟨xs, eh, dr, bl, nk⟩ := m2.obj j a _ ha2 e2
        refine ⟨a, xs, wv, rfl, rfl, eh, by rw [← dr.length, ← lim_eq]; exact hz, ?_⟩
        obtain ⟨l3, m3⟩ := m2.wrote ha2 nk (DRels.append dr (show DRels (kb X) W2 [w] [wv] from ⟨wv, [], rfl, dw, rfl⟩)) (bels_app bl (by simp [D.bels, hb]))
        exact s2 _ l3 m3 .non rfl
      · exact s2.elim
  | _ => exact s1.elim

/-! ### list comprehensions -/
def wipeE (r : EV) : List Nat → EV
  | [] => r
  | v :: vs => (wipeE r vs).set v none
theorem wipeE_len (r : EV) : ∀ vs, (wipeE r vs).length = r.length
  | [] => rfl
  | v :: vs => by unfold wipeE; rw [List.length_set, wipeE_len r vs]
theorem SRel.wipe {K : Kb} {W : Wd} {s : L2.St} {r : EV} (h : SRel K W s r) : ∀ vs, SRel K W (wipe s vs) (wipeE r vs)
  | [] => h
  | v :: vs => by
    have ih := SRel.wipe h vs
    unfold wipeE L2.wipe
    refine ⟨by simp [ih.len], fun j e hj => ?_⟩
    by_cases hij : v = j
    · subst hij
      by_cases hv : v < (wipeE r vs).length
      · rw [List.getElem?_set_self hv] at hj; cases hj
      · rw [List.getElem?_eq_none (by simpa using hv)] at hj; cases hj
    · rw [List.getElem?_set_ne hij] at hj ⊢
      exact ih.get j e hj
theorem wipe_set (s : L2.St) (i : Nat) (x : Option V) : ∀ vs, i ∈ vs → wipe (s.set i x) vs = wipe s vs
  | [], h => by cases h
  | v :: vs, h => by
    unfold L2.wipe
    by_cases hi : i ∈ vs
    · rw [wipe_set s i x vs hi]
    · have e : i = v := by
        rcases List.mem_cons.mp h with h | h
        · exact h
        · exact absurd h hi
      subst e
      have key : ∀ us : List Nat, i ∉ us → wipe (s.set i x) us = (wipe s us).set i x := by
        intro us
        induction us with
        | nil => intro _; rfl
        | cons u us ih =>
          intro hu
          simp only [List.mem_cons, not_or] at hu
          unfold L2.wipe
          rw [ih hu.2, List.set_comm _ _ hu.1]
      rw [key vs hi, List.set_set]
theorem wipe_wipe (s : L2.St) (vs : List Nat) : wipe (wipe s vs) vs = wipe s vs := by
  have key : ∀ us : List Nat, (∀ u ∈ us, u ∈ vs) → wipe (wipe s us) vs = wipe s vs := by
    intro us
    induction us with
    | nil => intro _; rfl
    | cons u us ih =>
      intro h
      conv => lhs; arg 1; unfold L2.wipe
      rw [wipe_set _ u none vs (h u List.mem_cons_self)]
      exact ih fun w hw => h w (List.mem_cons_of_mem _ hw)
  exact key vs fun u hu => hu
/-- targets that store in vs alone -/
def rdGc (K : Kx) (F : FT) (vs : List Nat) (m : MG) : TG := fun v s H Q => At K s H fun mu r M => ∃ d, DRel K ⟨H, mu⟩ d v ∧ Sat K.b.no ⟨H, mu⟩ (m F d r M) (fun r' _ W => ∀ s', SRel K W s' r' → wipe s' vs = wipe s vs → Q s' W.H)
def rdGsc (K : Kx) (F : FT) (vs : List Nat) (m : MGs) : TGs := fun v s H Q => At K s H fun mu r M => ∃ d, DRels K ⟨H, mu⟩ d v ∧ Sat K.b.no ⟨H, mu⟩ (m F d r M) (fun r' _ W => ∀ s', SRel K W s' r' → wipe s' vs = wipe s vs → Q s' W.H)
def OkGc (T : Tb) (C : CC) (vs : List Nat) (e : Expr) (m : MG) : Prop := ∀ n X wx, CxOk T n C X wx → PG X e (rdGc (kx X wx) (callF T n) vs m)
def OkGsc (T : Tb) (C : CC) (vs : List Nat) (es : List Expr) (m : MGs) : Prop := ∀ n X wx, CxOk T n C X wx → PGs X es (rdGsc (kx X wx) (callF T n) vs m)
theorem ok_gcname {i : Nat} {x : Str} {pos : Pos} {vs : List Nat} (hv : i ∈ vs) (hi : C.N[i]? = some x) (hl : C.sc.names.lookup x = some .local ∨ (C.sc.names.lookup x = some .cell ∧ C.fn x = true)) : OkGc T C vs (.Name x pos) (gN i) := by
  intro n X wx h
  obtain ⟨h1, h2⟩ := loc_of h hl
  refine PG.of (pg_name h.nd (by rw [h.N]; exact hi) h1 h2) fun v s H Q q => ?_
  obtain ⟨mu, M, r, mr, sr, d, dv, sat⟩ := q
  exact sat.ok mr _ (sr.set dv i) (wipe_set s i (some v) vs hv)
theorem ok_gscnil {vs : List Nat} : OkGsc T C vs [] gsNil := by
  intro n X wx h
  refine PGs.of pgs_nil fun v s H Q q => ?_
  obtain ⟨mu, M, r, mr, sr, ds, dv, sat⟩ := q
  cases ds with
  | nil => exact ⟨dv, sat.ok mr s sr rfl⟩
  | cons _ _ => exact sat.elim
theorem ok_gsccons {vs : List Nat} {e : Expr} {es : List Expr} {g : MG} {gs : MGs} (hs : noStarT e = true) (h1 : OkGc T C vs e g) (h2 : OkGsc T C vs es gs) : OkGsc T C vs (e :: es) (gsCons g gs) := by
  intro n X wx h
  refine PGs.of (pgs_cons (h1 n X wx h) (h2 n X wx h) (by rw [noStarT_each hs]; rfl)) fun v s H Q q => ?_
  obtain ⟨mu, M, r, mr, sr, ds, dv, sat⟩ := q
  cases ds with
  | nil => exact sat.elim
  | cons d rest =>
    simp only [DRels] at dv
    obtain ⟨v1, vr, rfl, d1, d2⟩ := dv
    refine ⟨v1, vr, rfl, mu, M, r, mr, sr, d, d1, sat.bind.imp fun r1 M1 W1 l1 m1 s1 s' sr' e1 => ?_⟩
    exact ⟨W1.mu, M1, r1, m1, sr', rest, DRels.le l1 rest vr d2, s1.imp fun r2 M2 W2 l2 m2 q2 s2 sr2 e2 => q2 s2 sr2 (e2.trans e1)⟩
theorem ok_gctup (hq : C.calm = true) {vs : List Nat} {es : List Expr} {k pos} {gs : MGs} {m : Nat} (hs : es.all noStarT = true) (hm : es.length = m) (h : OkGsc T C vs es gs) : OkGc T C vs (.Tuple es k pos) (gTp m gs) := by
  intro n X wx q
  obtain ⟨a1, a2⟩ := noStarsT (env := X.env) hs
  refine PG.of (PG.or (pg_tup (q.calm.trans hq) (h n X wx q) (a1.trans hm) a2) (pg_unl (q.calm.trans hq) (h n X wx q) (a1.trans hm) a2)) fun v s H Q w => ?_
  obtain ⟨mu, M, r, mr, sr, d, dv, sat⟩ := w
  unfold gTp at sat
  split at sat
  · rename_i l e
    obtain ⟨hl, sat⟩ := sat_ite sat
    obtain ⟨a, xs, rfl, hq, dr⟩ := seqD_at mr e dv
    rcases hq with hq | hq
    · exact .inr ⟨a, xs, rfl, hq, by rw [← dr.length]; exact hl, mu, M, r, mr, sr, l, dr, sat⟩
    · exact .inl ⟨a, xs, rfl, hq, by rw [← dr.length]; exact hl, mu, M, r, mr, sr, l, dr, sat⟩
  · exact sat.elim
def OkTs (T : Tb) (C : CC) (es : List Expr) (m : MT) : Prop := ∀ n X wx, CxOk T n C X wx → PTs X es (rdT (kx X wx) (callF T n) m)
theorem PTs.of {X : Cx} {e : List Expr} {t t' : TT} (h : PTs X e t) (f : ∀ s H Q, t' s H Q → t s H Q) : PTs X e t' := ⟨fun pins s σ H Q I q => h.run pins s σ H Q I (f σ H Q q)⟩
def mYes : MT := fun _ _ M => .ok true M
theorem ok_tsnil : OkTs T C [] mYes := by
  intro n X wx h
  refine PTs.of pts_nil fun s H Q q => ?_
  obtain ⟨mu, M, r, mr, sr, sat⟩ := q
  exact sat.ok mr
theorem ok_tsone {e : Expr} {m : MT} (h : OkT T C e m) : OkTs T C [e] m := fun n X wx q => pts_one (h n X wx q)
/-- the block -/
def CC.blk (C : CC) (scope : Scope) : CC := { C with sc := relS scope C.sc, fn := fun x => scope.names.lookup x == some .cell, top := false }
theorem kb_blk {n : Nat} {X : Cx} {wx : Ex → L2.St → Wd → Prop} (h : CxOk T n C X wx) (hq : C.calm = true) (s : Shared) (H : Hp) (scope : Scope) (env : Env) (fp : List Addr) : kb (X.blk s H scope env fp) = kb X := by
  have h1 : hxOf X = none := if_pos (h.calm.trans hq)
  have h2 : hxOf (X.blk s H scope env fp) = none := if_pos (h.calm.trans hq)
  unfold kb
  rw [h1, h2]
theorem kx_blk {n : Nat} {X : Cx} {wx : Ex → L2.St → Wd → Prop} (h : CxOk T n C X wx) (hq : C.calm = true) (s : Shared) (H : Hp) (scope : Scope) (env : Env) (fp : List Addr) : kx (X.blk s H scope env fp) (fun _ _ _ => False) = (kb X).no := by
  show (kb (X.blk s H scope env fp)).no = _
  rw [kb_blk h hq]
theorem CxOk.blk {n : Nat} {X : Cx} {wx : Ex → L2.St → Wd → Prop} (h : CxOk T n C X wx) (hq : C.calm = true) {scope : Scope} (hk : scope.kind = .function) (s : Shared) (H : Hp) (Ca : Addr) (cl : List (Str × Addr)) (fp : List Addr) : CxOk T n (C.blk scope) (X.blk s H scope (compEnvC scope cl Ca X.env) fp) (fun _ _ _ => False) where
  sc := by
    show (compEnvC scope cl Ca X.env).scope = relS scope C.sc
    rw [← h.sc]; rfl
  N := h.N
  nd := h.nd
  fn := rfl
  kind := hk
  calm := h.calm
  un := h.un
  room := h.room
  stk := fun z => by cases z
  pas := PassesOwn.never
  tk := Takes.imp takes0 fun _ _ _ _ q => by
    obtain ⟨_, _, _, z⟩ := q
    exact z
  con := by rw [kb_blk h hq]; exact h.con
  blt := h.blt
  exs := h.exs
  exm := h.exm
  fns := h.fns
  fld := h.fld
  kds := h.kds
def lcG (gd : Gd) (g : MG) (mt : MT) (me : ME) (F : FT) (r : EV) : List D → Mem → Res (List D)
  | [], M => if Gd.ok gd M = true then .ok [] M else .bad
  | d :: ds, M => if Gd.ok gd M = true then (g F d r M).bind fun r1 M1 => (mt F r1 M1).bind fun k M2 =>
    if k then (me F r1 M2).bind fun y M3 => (lcG gd g mt me F r ds M3).bind fun ys M4 => .ok (y :: ys) M4 else lcG gd g mt me F r ds M2 else .bad
def mLc (mi : MI) (g : MG) (mt : MT) (me : ME) (vs : List Nat) : ME := fun F r M => (mi F r M).bind fun p M1 => if p.1.length ≤ LIM then (lcG p.2 g mt me F (wipeE r vs) p.1 M1).noX.bind fun ys M2 => .ok (.lst ys) M2 else .bad
theorem Sat.eq {A : Type} {K : Kx} {W : Wd} {r r' : Res A} {P : A → Mem → Wd → Prop} (h : Sat K W r P) (e : r = r') : Sat K W r' P := e ▸ h
theorem bind_assoc {A B C : Type} (r : Res A) (f : A → Mem → Res B) (g : B → Mem → Res C) : (r.bind f).bind g = r.bind fun a M => (f a M).bind g := by
  cases r <;> rfl
/-- a list that is being made becomes one that stands -/
theorem tLc_of {K : Kx} {F : FT} {mi : MI} {g : MG} {mt : MT} {me : ME} {vs : List Nat} {s : L2.St} {H : Hp} {Q : VK} (q : rdE K F (mLc mi g mt me vs) s H Q) :
    tLc (rdI K F mi) (rdGc K.b.no F vs g) (rdT K.b.no F mt) (rdE K.b.no F me) vs s H Q := by
  obtain ⟨mu, M, r, mr, sr, sat⟩ := q
  refine ⟨mu, M, r, mr, sr, sat.bind.imp fun p M1 W1 l1 m1 s1 J wk Dl hD => ?_⟩
  obtain ⟨ds, gd⟩ := p
  obtain ⟨hlim, s1⟩ := sat_ite s1
  have hlim : ds.length ≤ LIM := hlim
  have fz := m1.fresh hD
  have sr1 : SRel K W1 s r := sr.le l1
  -- the world with the list that is made
  have inv : ∃ Pv : Nat → Hp → Prop, Pv 0 (upd W1.H Dl (.lst [])) ∧ (∀ i H2, i ≤ ds.length → Pv i H2 →
      (i = ds.length → J.stop i H2 ∧ Q (.ref Dl) H2) ∧ (i < ds.length → J.go i H2 ∧ ∀ x H', J.yld i H2 x H' → rdGc K.b.no F vs g x (wipe s vs) H' fun s2 H3 => wipe s2 vs = wipe s vs ∧ rdT K.b.no F mt s2 H3 fun b H4 =>
        if b = true then rdE K.b.no F me s2 H4 fun y H5 => ∃ acc, H5 Dl = some (.lst acc) ∧ acc.length < sizeLine ∧ Pv (i + 1) (upd H5 Dl (.lst (acc ++ [y]))) else Pv (i + 1) H4)) := by
    refine ⟨fun i H2 => ∃ mu2 M2 acc xs, MRel K ⟨H2, mu2⟩ M2 ∧ Lk W1 ⟨H2, mu2⟩ ∧ mu2.p = Dl :: W1.mu.p ∧ (∀ a, a ∈ W1.mu.p → H2 a = W1.H a) ∧ H2 Dl = some (.lst xs) ∧ DRels K ⟨H2, mu2⟩ acc xs ∧ acc.length ≤ i ∧
        Sat (K.at s) W1 ((lcG gd g mt me F (wipeE r vs) (ds.drop i) M2).noX.bind fun ys M3 => .ok (.lst (acc ++ ys)) M3) (PV K Q), ?_, ?_⟩
    · have ne : ∀ {a : Addr} {u : HO}, W1.H a = some u → upd W1.H Dl (.lst []) a = some u := fun {a u} h => by
        rw [upd_ne (ne_of_none h hD)]; exact h
      have lk : Lk W1 ⟨upd W1.H Dl (.lst []), ⟨W1.mu.l, Dl :: W1.mu.p, W1.mu.k⟩⟩ := ⟨⟨[], by simp⟩, fun a o h nf => ⟨ne h, nf.1, by
        show a ∉ Dl :: W1.mu.p
        simp only [List.mem_cons, not_or]
        exact ⟨ne_of_none h hD, nf.2⟩⟩⟩
      refine ⟨⟨W1.mu.l, Dl :: W1.mu.p, W1.mu.k⟩, M1, [], [], m1.lk lk rfl rfl (fun a ha => ?_) (fun a ha => ?_), lk, rfl, fun a ha => ?_, upd_same, rfl, Nat.zero_le _, s1⟩
      · obtain ⟨u, e⟩ := m1.there ha
        rw [e]; exact ne e
      · rcases List.mem_cons.mp ha with rfl | ha
        · exact ⟨⟨_, upd_same⟩, fun z => by obtain ⟨u, e⟩ := m1.there z; rw [hD] at e; cases e⟩
        · obtain ⟨⟨u, e⟩, q⟩ := m1.pv a ha
          exact ⟨⟨u, ne e⟩, q⟩
      · obtain ⟨⟨u, e⟩, q⟩ := m1.pv a ha
        rw [e]; exact ne e
    · rintro i H2 hle ⟨mu2, M2, acc, xs, mr2, lk2, ep, hpv, hDl, dacc, hacc, sat2⟩
      constructor
      · rintro rfl
        rw [List.drop_length] at sat2
        simp only [lcG] at sat2
        by_cases hgd : Gd.ok gd M2 = true
        case neg => rw [if_neg hgd] at sat2; exact sat2.elim
        rw [if_pos hgd] at sat2
        refine ⟨wk.stop _ _ lk2 mr2 hgd, ?_⟩
        simp only [Res.noX_ok, Res.bind_ok, List.append_nil] at sat2
        -- leave: the list stands
        have nDl : Dl ∉ mu2.l := (mr2.pv Dl (by rw [ep]; exact List.mem_cons_self)).2
        have lk3 : Lk ⟨H2, mu2⟩ ⟨H2, ⟨mu2.l, W1.mu.p, mu2.k⟩⟩ := ⟨⟨[], by simp⟩, fun a o h nf => ⟨h, nf.1, fun z => nf.2 (by show a ∈ mu2.p; rw [ep]; exact List.mem_cons_of_mem _ z)⟩⟩
        have mr3 : MRel K ⟨H2, ⟨mu2.l, W1.mu.p, mu2.k⟩⟩ M2 := mr2.lk lk3 rfl rfl (fun _ _ => rfl) fun a ha => mr2.pv a (by rw [ep]; exact List.mem_cons_of_mem _ ha)
        have le3 : Le W1 ⟨H2, ⟨mu2.l, W1.mu.p, mu2.k⟩⟩ := ⟨lk2.trans lk3, rfl, fun a ha => hpv a ha⟩
        refine sat2 _ le3 mr3 (.ref Dl) ?_
        simp only [DRel]
        exact ⟨Dl, xs, rfl, .inl ⟨.inl hDl, .inl nDl, fz.2⟩, DRels.lk lk3 acc xs dacc⟩
      · intro hlt
        rw [drop_cons hlt] at sat2
        simp only [lcG] at sat2
        by_cases hgd : Gd.ok gd M2 = true
        case neg => rw [if_neg hgd] at sat2; exact sat2.elim
        rw [if_pos hgd] at sat2
        refine ⟨wk.go i _ _ lk2 mr2 hgd hlt, fun x H' y => ?_⟩
        obtain ⟨W3, rfl, le3, mr3, dx⟩ := wk.yld i ds[i] _ M2 x H' (List.getElem?_eq_getElem hlt) lk2 mr2 hgd y
        -- facts that go on
        have base : ∀ W, Le W3 W → Lk W1 W ∧ W.mu.p = Dl :: W1.mu.p ∧ (∀ a, a ∈ W1.mu.p → W.H a = W1.H a) ∧ W.H Dl = some (.lst xs) ∧ DRels K W acc xs := fun W l => by
          have l' := le3.trans l
          have e : W.mu.p = Dl :: W1.mu.p := l'.pv.trans ep
          refine ⟨lk2.trans l'.toLk, e, fun a ha => ?_, ?_, DRels.le l' acc xs dacc⟩
          · rw [l'.pvk a (by show a ∈ mu2.p; rw [ep]; exact List.mem_cons_of_mem _ ha)]; exact hpv a ha
          · rw [l'.pvk Dl (by show Dl ∈ mu2.p; rw [ep]; exact List.mem_cons_self)]; exact hDl
        have srw : SRel K W3 (wipe s vs) (wipeE r vs) := (sr1.wipe vs).lk (lk2.trans le3.toLk)
        refine ⟨W3.mu, M2, wipeE r vs, mr3, srw, ds[i], dx, ?_⟩
        -- the meaning from W1 on, walked from W3 on
        cases e1 : g F ds[i] (wipeE r vs) M2 with
        | bad => rw [e1] at sat2; exact sat2.elim
        | exc _ _ => rw [e1] at sat2; exact sat2.elim
        | ok r4 M4 =>
          rw [e1] at sat2
          simp only [Res.bind_ok] at sat2
          intro W4 l4 m4 s4 sr4 es4
          refine ⟨es4.trans (wipe_wipe s vs), W4.mu, M4, r4, m4, sr4, ?_⟩
          cases e2 : mt F r4 M4 with
          | bad => rw [e2] at sat2; exact sat2.elim
          | exc _ _ => rw [e2] at sat2; exact sat2.elim
          | ok k M5 =>
            rw [e2] at sat2
            simp only [Res.bind_ok] at sat2
            show Sat (K.b.no.at s4) W4 (mt F r4 M4) _
            rw [e2]
            intro W5 l5 m5
            cases k with
            | false =>
              refine iteF ?_
              simp only [Bool.false_eq_true, if_false] at sat2
              obtain ⟨b1, b2, b3, b4, b5⟩ := base W5 (l4.trans l5)
              exact ⟨W5.mu, M5, acc, xs, m5, b1, b2, b3, b4, b5, by omega, sat2⟩
            | true =>
              refine iteT ⟨W5.mu, M5, r4, m5, sr4.le l5, ?_⟩
              simp only [if_true] at sat2
              cases e3 : me F r4 M5 with
              | bad => rw [e3] at sat2; exact sat2.elim
              | exc _ _ => rw [e3] at sat2; exact sat2.elim
              | ok yd M6 =>
                rw [e3] at sat2
                simp only [Res.bind_ok] at sat2
                show Sat (K.b.no.at s4) W5 (me F r4 M5) _
                rw [e3]
                intro W6 l6 m6 yv dy
                obtain ⟨b1, b2, b3, b4, b5⟩ := base W6 ((l4.trans l5).trans l6)
                refine ⟨xs, b4, by rw [← b5.length, ← lim_eq]; omega, ?_⟩
                have hDp : Dl ∈ W6.mu.p := by rw [b2]; exact List.mem_cons_self
                have nDl : Dl ∉ W6.mu.l := (m6.pv Dl hDp).2
                have lk7 : Lk W6 ⟨upd W6.H Dl (.lst (xs ++ [yv])), W6.mu⟩ := ⟨⟨[], by simp⟩, fun a o h nf => ⟨by
                  show upd W6.H Dl _ a = _
                  rw [upd_ne (by rintro rfl; exact nf.2 hDp)]; exact h, nf⟩⟩
                refine ⟨W6.mu, M6, acc ++ [yd], xs ++ [yv], m6.lk lk7 rfl rfl (fun a ha => upd_ne (by rintro rfl; exact nDl ha)) (fun a ha => ?_), b1.trans lk7, b2, fun a ha => ?_, upd_same,
                  DRels.lk lk7 _ _ (DRels.append b5 (show DRels K W6 [yd] [yv] from ⟨yv, [], rfl, dy, rfl⟩)), by simp; omega, ?_⟩
                · by_cases ea : a = Dl
                  · subst ea
                    exact ⟨⟨_, upd_same⟩, nDl⟩
                  · obtain ⟨⟨u, e⟩, q⟩ := m6.pv a ha
                    exact ⟨⟨u, by show upd W6.H Dl _ a = _; rw [upd_ne ea]; exact e⟩, q⟩
                · have ea : a ≠ Dl := by rintro rfl; exact fz.2 ha
                  rw [upd_ne ea]; exact b3 a ha
                · refine Sat.eq sat2 ?_
                  cases lcG gd g mt me F (wipeE r vs) (ds.drop (i + 1)) M6 with
                  | ok ys M7 => simp [Res.bind, Res.noX]
                  | exc _ _ => rfl
                  | bad => rfl
  obtain ⟨Pv, p0, step⟩ := inv
  refine ⟨fun i m H2 => m = ds.length - i ∧ i ≤ ds.length ∧ Pv i H2, ⟨ds.length, by simp, Nat.zero_le _, p0⟩, ?_⟩
  rintro i m H2 ⟨rfl, hle, p⟩
  obtain ⟨h1, h2⟩ := step i H2 hle p
  by_cases hlt : i < ds.length
  · obtain ⟨go, st⟩ := h2 hlt
    exact .inr ⟨go, Pv (i + 1), fun H' p' => ⟨ds.length - (i + 1), by omega, rfl, hlt, p'⟩, st⟩
  · exact .inl (h1 (by omega))
theorem ok_lc (hq : C.calm = true) {elt tg iter : Expr} {ifs : List Expr} {scope : Scope} {own : List (Str × Nat)} {pos : Pos} {mi : MI} {g : MG} {mt : MT} {me : ME} {vs : List Nat} (hv : own.map (·.2) = vs) (hs : noSet iter = true) (ok : blkC C.N C.sc scope own = true) (hi : OkI T C tg iter mi)
    (hg : OkGc T (C.blk scope) vs tg g) (ht : OkTs T (C.blk scope) ifs mt) (he : OkE T (C.blk scope) elt me) : OkE T C (.ListComp elt [⟨tg, iter, ifs, 0⟩] scope pos) (mLc mi g mt me vs) := by
  intro n X wx h
  have bo : BlkOk X.N X.env.scope scope own := by rw [h.N, h.sc]; exact blkOk_by ok
  subst hv
  exact PE.of (pe_lc (g := rdGc (kb X).no (callF T n) (own.map (·.2)) g) (tt := rdT (kb X).no (callF T n) mt) (te := rdE (kb X).no (callF T n) me) (h.calm.trans hq) h.nd (hi n X wx h) bo (fun s H Ca cl fp => by rw [← kx_blk h hq s H scope (compEnvC scope cl Ca X.env) fp]; exact hg n _ _ (h.blk hq bo.kind s H Ca cl fp)) (fun s H Ca cl fp => by rw [← kx_blk h hq s H scope (compEnvC scope cl Ca X.env) fp]; exact ht n _ _ (h.blk hq bo.kind s H Ca cl fp)) (fun s H Ca cl fp => by rw [← kx_blk h hq s H scope (compEnvC scope cl Ca X.env) fp]; exact he n _ _ (h.blk hq bo.kind s H Ca cl fp)) (noSet_it hs)) fun s H Q q => tLc_of q
/-- y = [..] on one line -/
theorem ok_setlc (hq : C.calm = true) {i : Nat} {y : Str} {py spos : Pos} {elt tg iter : Expr} {ifs : List Expr} {scope : Scope} {own : List (Str × Nat)} {pos : Pos} {mi : MI} {g : MG} {mt : MT} {me : ME} {vs : List Nat} (hv : own.map (·.2) = vs) (hs : noSet iter = true) (ok : blkC C.N C.sc scope own = true)
    (hy : C.N[i]? = some y) (hyl : C.sc.names.lookup y = some .local) (hline : (py.line == pos.line) = true) (hany : (scope.names.any fun (n, k) => n == y && (k == .local || k == .cell)) = false) (hi : OkI T C tg iter mi)
    (hg : OkGc T (C.blk scope) vs tg g) (ht : OkTs T (C.blk scope) ifs mt) (he : OkE T (C.blk scope) elt me) : OkS T C (.Assign [.Name y py] (.ListComp elt [⟨tg, iter, ifs, 0⟩] scope pos) spos) (mAsg (mLc mi g mt me vs) (gN i)) := by
  intro n X wx h
  have bo : BlkOk X.N X.env.scope scope own := by rw [h.N, h.sc]; exact blkOk_by ok
  subst hv
  have hk : X.env.scope.kind = .function := by rw [h.sc]; exact h.kind
  refine PS.of (ps_setLc (g := rdGc (kb X).no (callF T n) (own.map (·.2)) g) (tt := rdT (kb X).no (callF T n) mt) (te := rdE (kb X).no (callF T n) me) (h.calm.trans hq) h.nd (by rw [h.N]; exact hy) (by rw [h.sc]; exact hyl) (sw_true hk (by rw [h.sc]; exact hyl) hline hany) (hi n X wx h) bo (fun s H Ca cl fp => by rw [← kx_blk h hq s H scope (compEnvC scope cl Ca X.env) fp]; exact hg n _ _ (h.blk hq bo.kind s H Ca cl fp)) (fun s H Ca cl fp => by rw [← kx_blk h hq s H scope (compEnvC scope cl Ca X.env) fp]; exact ht n _ _ (h.blk hq bo.kind s H Ca cl fp)) (fun s H Ca cl fp => by rw [← kx_blk h hq s H scope (compEnvC scope cl Ca X.env) fp]; exact he n _ _ (h.blk hq bo.kind s H Ca cl fp)) (noSet_it hs)) fun Dn s H q => ?_
  refine tLc_of ?_
  obtain ⟨mu, M, r, mr, sr, sat⟩ := asg_of q
  refine ⟨mu, M, r, mr, sr, sat.imp fun d M1 W1 l1 m1 s1 v dv => ?_⟩
  obtain ⟨mu2, M2, r2, mr2, sr2, d2, dv2, sat2⟩ := s1 v dv
  exact sat2.ok mr2 _ (sr2.set dv2 i)
end RI

set_option maxHeartbeats 4000000
namespace RI
open PySem PySem.Spec PyProof.Rows L2
variable {T : Tb} {C : CC}

/-! ### things being made -/
abbrev Wd.priv (W : Wd) (p : Addr) (o : HO) : Wd := ⟨upd W.H p o, ⟨W.mu.l, p :: W.mu.p, W.mu.k⟩⟩
theorem priv_in {K : Kb} {W : Wd} {M : Mem} (m : MRel K W M) {p : Addr} (hp : W.H p = none) (o : HO) : Lk W (W.priv p o) ∧ MRel K (W.priv p o) M := by
  have fz := m.fresh hp
  have ne : ∀ {a : Addr} {u : HO}, W.H a = some u → upd W.H p o a = some u := fun {a u} h => by
    rw [upd_ne (ne_of_none h hp)]; exact h
  have lk : Lk W (W.priv p o) := ⟨⟨[], by simp⟩, fun a u h nf => ⟨ne h, nf.1, by
    show a ∉ p :: W.mu.p
    simp only [List.mem_cons, not_or]
    exact ⟨ne_of_none h hp, nf.2⟩⟩⟩
  refine ⟨lk, m.lk lk rfl rfl (fun a ha => ?_) (fun a ha => ?_)⟩
  · obtain ⟨u, e⟩ := m.there ha
    rw [e]; exact ne e
  · rcases List.mem_cons.mp ha with rfl | ha
    · exact ⟨⟨_, upd_same⟩, fun z => by obtain ⟨u, e⟩ := m.there z; rw [hp] at e; cases e⟩
    · obtain ⟨⟨u, e⟩, q⟩ := m.pv a ha
      exact ⟨⟨u, ne e⟩, q⟩
theorem priv_out {K : Kb} {W W3 : Wd} {M M3 : Mem} (m : MRel K W M) {p : Addr} (hp : W.H p = none) {o : HO} (l : Le (W.priv p o) W3) (m3 : MRel K W3 M3) (o' : HO) (mo : MO) (new : ∀ W', Lk W3 W' → W'.H p = some o' → p ∉ W'.mu.k → ORel K W' M3.length p mo) :
    Le W ⟨upd W3.H p o', ⟨W3.mu.l ++ [p], W.mu.p, W3.mu.k⟩⟩ ∧ MRel K ⟨upd W3.H p o', ⟨W3.mu.l ++ [p], W.mu.p, W3.mu.k⟩⟩ (M3 ++ [mo]) := by
  have ep : W3.mu.p = p :: W.mu.p := l.pv
  have npl : p ∉ W3.mu.l := (m3.pv p (by rw [ep]; exact List.mem_cons_self)).2
  have npp : p ∉ W.mu.p := (m.fresh hp).2
  have npk : p ∉ W3.mu.k := fun z => (m3.kk p z).2 (by rw [ep]; exact List.mem_cons_self)
  have lk : Lk W3 ⟨upd W3.H p o', ⟨W3.mu.l ++ [p], W.mu.p, W3.mu.k⟩⟩ := ⟨⟨[p], rfl⟩, fun a u h nf => by
    have hne : a ≠ p := by rintro rfl; exact nf.2 (by rw [ep]; exact List.mem_cons_self)
    refine ⟨by show upd W3.H p o' a = _; rw [upd_ne hne]; exact h, ?_, ?_⟩
    · refine nf.1.imp_left fun n1 => ?_
      show a ∉ W3.mu.l ++ [p]
      simp only [List.mem_append, List.mem_singleton, not_or]
      exact ⟨n1, hne⟩
    · show a ∉ W.mu.p
      intro z
      exact nf.2 (by rw [ep]; exact List.mem_cons_of_mem _ z)⟩
  refine ⟨⟨((priv_in m hp o).1.trans l.toLk).trans lk, rfl, fun a ha => ?_⟩, by simp [m3.len], ?_, fun i a u h1 h2 => ?_, fun a ha => ?_, fun a ha => ?_⟩
  · have hne : a ≠ p := by rintro rfl; exact npp ha
    show upd W3.H p o' a = W.H a
    rw [upd_ne hne, l.pvk a (List.mem_cons_of_mem _ ha)]
    show upd W.H p o a = W.H a
    rw [upd_ne hne]
  · show (W3.mu.l ++ [p]).Nodup
    rw [List.nodup_append]
    refine ⟨m3.nd, by simp, ?_⟩
    intro x hx y hy e
    simp only [List.mem_singleton] at hy
    subst hy; subst e; exact npl hx
  · have h1 : (W3.mu.l ++ [p])[i]? = some a := h1
    by_cases hi : i < W3.mu.l.length
    · rw [List.getElem?_append_left hi] at h1
      rw [List.getElem?_append_left (by rw [← m3.len]; exact hi)] at h2
      have hm : a ∈ W3.mu.l := List.mem_of_getElem? h1
      refine (m3.obj i a u h1 h2).lk lk ?_ Iff.rfl
      show upd W3.H p o' a = _
      rw [upd_ne (by rintro rfl; exact npl hm)]
    · have e : i = W3.mu.l.length := by
        have : i < (W3.mu.l ++ [p]).length := by
          by_cases q : i < (W3.mu.l ++ [p]).length
          · exact q
          · rw [List.getElem?_eq_none (by omega)] at h1; cases h1
        simp at this
        omega
      subst e
      rw [List.getElem?_append_right (Nat.le_refl _)] at h1
      rw [m3.len, List.getElem?_append_right (Nat.le_refl _)] at h2
      simp at h1 h2
      subst h1; subst h2
      rw [m3.len]
      exact new _ lk upd_same npk
  · obtain ⟨⟨u, e⟩, q⟩ := m3.pv a (by rw [ep]; exact List.mem_cons_of_mem _ ha)
    have hne : a ≠ p := by rintro rfl; exact npp ha
    refine ⟨⟨u, by show upd W3.H p o' a = _; rw [upd_ne hne]; exact e⟩, ?_⟩
    show a ∉ W3.mu.l ++ [p]
    simp only [List.mem_append, List.mem_singleton, not_or]
    exact ⟨q, hne⟩
  · obtain ⟨⟨u, e⟩, q⟩ := m3.kk a ha
    have hne : a ≠ p := by rintro rfl; exact npk ha
    exact ⟨⟨u, by show upd W3.H p o' a = _; rw [upd_ne hne]; exact e⟩, fun z => q (by rw [ep]; exact List.mem_cons_of_mem _ z)⟩

/-! ### {} and {k: v}, keys tuples -/
def mDct0 : ME := fun _ _ M => .ok (.obj M.length) (M ++ [.dct false []])
def tDct0 (P : Program) (w : World) : TE := fun _ H Q => ∀ p, H p = none → (p == sysModules) = false → Q (.ref p) (upd H p (DctO P w p []))
theorem pe_dct0 {X : Cx} {pos : Pos} : PE X (.Dict [] [] pos) (tDct0 X.prog X.w) := ⟨fun pins s σ H Q I h =>
  wpAny_Dict_empty ⟨.ref s.heap.objs.size, _, I.laid (a := s.heap.objs.size) (o := DctO X.prog X.w s.heap.objs.size []) (t' := s.toks) (fun _ _ q => Heap.get?_push_of_some _ q) (Nat.le_refl _) (dct_new (Heap.DictOfH.new s.heap)), rfl,
    h _ (I.hok.fresh (Nat.le_refl _)) (beq_eq_false_iff_ne.mpr (Ne.symm (Nat.ne_of_lt I.big)))⟩⟩
theorem ok_dct0 {pos : Pos} : OkE T C (.Dict [] [] pos) mDct0 := by
  intro n X wx h
  refine PE.of pe_dct0 fun s H Q q => ?_
  obtain ⟨mu, M, r, mr, sr, sat⟩ := q
  intro p hp hs
  obtain ⟨l1, m1⟩ := mr.bornO hp (DctO X.prog X.w p []) (.dct false []) fun W' lk e ek => ⟨[], ⟨ek, e⟩, List.nodup_nil, Nat.zero_le _, hs, .nil⟩
  refine sat _ l1 m1 (.ref p) ?_
  simp only [DRel]
  refine ⟨p, rfl, ?_⟩
  show (mu.l ++ [p])[M.length]? = some p
  rw [← mr.len, List.getElem?_append_right (Nat.le_refl _)]
  simp
theorem wpAny_Dict_rawH {prog : Program} {w : World} {A : Around} {E : Value → Shared → Prop} {s : Shared} {env : Env} {keys : List (Option Expr)} {values : List Expr} {pos : Pos} {pairs : List (Sem Value × Sem Value)} {Q : Value → Shared → Prop} (hu : (nestedKind prog w).room A)
    (hshape : (evalEachOpt keys env).zip ((evalEach values env).map fun v => do let x ← v; standAt pos; pure x) = pairs.map fun p => (some p.1, p.2)) (h0 : pairs ≠ []) (hlen : pairs.length ≤ 15)
    (h : wpAny (model prog w) A (evalPairs pairs) (fun vs s₁ => ∃ ps, CarriesH (nestedKind prog w) s₁.heap vs ps ∧ s₁.heap.DictOfH (nestedKind prog w) s.heap.objs.size [] ∧
      ∀ h' tk, h'.DictOfH (nestedKind prog w) s.heap.objs.size (storedAllH [] ps) → Heap.SameBut s.heap.objs.size s₁.heap h' → Q (.ref s.heap.objs.size) { s₁ with heap := h', toks := tk }) E
      { s with heap := s.heap.push { cls := .type "dict", data := .dict #[] } }) :
    wpAny (model prog w) A (eval (.Dict keys values pos) env) Q E s := by
  rw [arm_eval_Dict, hshape, dictDisplay_pairs pairs h0 (by omega)]
  exact wpAny_bind (wpAny_standAt (wpAny_bind (wpAny_subDictH (knd := nestedKind prog w) (Q := fun d s' => wpAny (model prog w) A (pure (Value.ref d)) Q E s') hu hlen
    (wpAny_mono h (fun vs s₁ h₁ => by obtain ⟨ps, hc, hm, hq⟩ := h₁; exact ⟨ps, hc, hm, fun h' tk a b => wpAny_pure (hq h' tk a b)⟩) fun _ _ e => e))))
/-- {k: v}: the new dict stands empty while the pair is made -/
def qDct1 (X : Cx) (p : Addr) (σ : L2.St) (Q : VK) : List (V × V) → Hp → Prop := fun ps H2 => ∃ x y k ka, ps = [(x, y)] ∧ x = .ref ka ∧ H2 p = some (DctO X.prog X.w p []) ∧ (∀ (pins : List (Addr × Obj)) (s : Shared), Inv X pins σ H2 s → (nestedKind X.prog X.w).is s.heap k ka) ∧ ∀ u, RelV y u → Q (.ref p) (upd H2 p (DctO X.prog X.w p [(k, ka, u)]))
def tDct1 (X : Cx) (tk tv : TE) : TE := fun σ H Q => ∀ p, H p = none → (p == sysModules) = false → tk σ (upd H p (DctO X.prog X.w p [])) fun x H1 => tv σ H1 fun y H2 => qDct1 X p σ Q [(x, y)] H2
theorem pe_dct1 {X : Cx} {pos : Pos} {k v : Expr} {tk tv : TE} (hu : X.A.units + 65 < cLine) (hk : PE X k tk) (hv : PE X v tv) : PE X (.Dict [some k] [v] pos) (tDct1 X tk tv) := by
  refine ⟨fun pins s σ H Q I q => ?_⟩
  have hn := I.hok.fresh (Nat.le_refl s.heap.objs.size)
  have hs : (s.heap.objs.size == sysModules) = false := beq_eq_false_iff_ne.mpr (Ne.symm (Nat.ne_of_lt I.big))
  have I1 := I.laid (a := s.heap.objs.size) (o := DctO X.prog X.w s.heap.objs.size []) (h' := s.heap.push { cls := .type "dict", data := .dict #[] }) (t' := s.toks) (fun _ _ q => Heap.get?_push_of_some _ q) (Nat.le_refl _) (dct_new (Heap.DictOfH.new s.heap))
  refine wpAny_Dict_rawH (pairs := pairTrees [some k] [v] X.env pos) (by show X.A.units + 8 < cLine; omega) (by rfl) (by intro z; cases z) (by show 1 ≤ 15; omega) ?_
  refine thn ((pps_cons hk hv pps_nil).run pins _ σ _ (qDct1 X s.heap.objs.size σ Q) I1 (q _ hn hs)) fun ws s2 ⟨ps, H2, I2, rel, x, y, kk, ka, ep, ex, e, hki, q2⟩ => ?_
  subst ep ex
  · obtain ⟨b, rfl, r⟩ : ∃ b, ws = [b] ∧ (RelV (.ref ka) b.1 ∧ RelV y b.2) := by
      cases rel with
      | cons r rr => cases rr; exact ⟨_, rfl, r⟩
    obtain ⟨u1, u2⟩ := b
    obtain ⟨r1, r2⟩ := r
    cases (show u1 = _ from r1)
    have hd : s2.heap.DictOfH (nestedKind X.prog X.w) s.heap.objs.size [] := by
      obtain ⟨o, es, ep, g1, g2, g3, g4⟩ := (I2.hok _ _ e).1
      exact ⟨o, es, ep, g1, g2, g3, g4, (fun x hx => by cases hx), List.nodup_nil⟩
    exact ⟨[(kk, ka, u2)], ⟨rfl, rfl, hki pins s2 I2, trivial⟩, hd, fun h' tk' d' sb => ⟨.ref s.heap.objs.size, _, d_write I2 (by rw [e]; exact True.intro) sb (let ⟨q, _, _, hq, _⟩ := d'; ⟨q, hq⟩) (dct_new d'), rfl, q2 u2 r2⟩⟩
def mDct1 (mk mv : ME) : ME := fun F r M => (mk F r M).noX.bind fun k M1 => (mv F r M1).noX.bind fun v M2 => if (D.isKey k && D.bel M2.length v) = true then .ok (.obj M2.length) (M2 ++ [.dct false [(k, v)]]) else .bad
theorem ok_dct1 {k v : Expr} {pos : Pos} {mk mv : ME} (hk : OkE T C k mk) (hv : OkE T C v mv) : OkE T C (.Dict [some k] [v] pos) (mDct1 mk mv) := by
  intro n X wx h
  refine PE.of (pe_dct1 (by have := h.un; omega) (hk n X wx h) (hv n X wx h)) fun s H Q q => ?_
  obtain ⟨mu, M, r, mr, sr, sat⟩ := q
  intro p hp hs
  obtain ⟨lk1, m1⟩ := priv_in mr hp (DctO X.prog X.w p [])
  have npv : H p = none := hp
  unfold mDct1 at sat
  cases e1 : mk (callF T n) r M with
  | bad => rw [e1] at sat; exact sat.elim
  | exc _ _ => rw [e1] at sat; exact sat.elim
  | ok kd M1 =>
    rw [e1] at sat
    simp only [Res.noX_ok, Res.bind_ok] at sat
    refine ⟨_, M, r, m1, sr.lk lk1, ?_⟩
    show Sat _ _ (mk (callF T n) r M) _
    rw [e1]
    intro W2 l2 m2 x dx
    cases e2 : mv (callF T n) r M1 with
    | bad => rw [e2] at sat; exact sat.elim
    | exc _ _ => rw [e2] at sat; exact sat.elim
    | ok vd M2 =>
      rw [e2] at sat
      simp only [Res.noX_ok, Res.bind_ok] at sat
      refine ⟨W2.mu, M1, r, m2, (sr.lk lk1).le l2, ?_⟩
      show Sat _ _ (mv (callF T n) r M1) _
      rw [e2]
      intro W3 l3 m3 y dy
      obtain ⟨hc, sat⟩ := sat_ite sat
      simp only [Bool.and_eq_true] at hc
      have l13 := l2.trans l3
      have dx3 := DRel.le l3 kd x dx
      have e3 : W3.H p = some (DctO X.prog X.w p []) := by rw [l13.pvk p List.mem_cons_self]; exact upd_same
      have hx : ∃ ka, x = .ref ka := by
        cases kd with
        | tup l => simp only [DRel] at dx; obtain ⟨a, xs, rfl, _⟩ := dx; exact ⟨a, rfl⟩
        | _ => simp [D.isKey] at hc
      obtain ⟨ka, rfl⟩ := hx
      refine ⟨_, y, D.toK kd, ka, rfl, rfl, e3, fun pins' s' I' => ?_, fun u ru => ?_⟩
      · obtain ⟨b, e1', e2', e3'⟩ := isKey_is (mu := W3.mu) I' hc.1 dx3 (u := .ref ka) rfl
        cases e1'
        exact e3'
      · obtain ⟨l4, m4⟩ := priv_out mr hp l13 m3 (DctO X.prog X.w p [(D.toK kd, ka, u)]) (.dct false [(kd, vd)]) fun W' lk e ek => ⟨_, ⟨ek, e⟩, (by simp), (by show 1 ≤ sizeLine; rw [sizeLine_eq]; omega), hs, .cons ⟨hc.1, rfl, DRel.lk lk _ _ dx3, ⟨y, DRel.lk lk _ _ dy, ru⟩, hc.2⟩ .nil⟩
        refine sat _ l4 m4 (.ref p) ?_
        simp only [DRel]
        refine ⟨p, rfl, ?_⟩
        show (W3.mu.l ++ [p])[M2.length]? = some p
        rw [← m3.len, List.getElem?_append_right (Nat.le_refl _)]
        simp
end RI

set_option maxHeartbeats 4000000
namespace RI
open PySem PySem.Spec PyProof.Rows L2
/-! ### data without the handled exception -/
mutual
def D.noE : D → Bool
  | .tup l => D.noEs l
  | .lst l => D.noEs l
  | .ins _ _ l => D.noEs l
  | .exn _ _ _ => false
  | _ => true
def D.noEs : List D → Bool
  | [] => true
  | d :: ds => D.noE d && D.noEs ds
end
mutual
theorem bel_noE (n : Nat) : ∀ d : D, D.bel n d = true → D.noE d = true
  | .non, _ => rfl
  | .bl _, _ => rfl
  | .int _, _ => rfl
  | .str _, _ => rfl
  | .obj _, _ => rfl
  | .tup l, h => by simp only [D.bel] at h; simp only [D.noE]; exact bels_noE n l h
  | .lst l, h => by simp only [D.bel] at h; simp only [D.noE]; exact bels_noE n l h
  | .exn _ _ _, h => by simp [D.bel] at h
  | .ins _ _ l, h => by simp only [D.bel] at h; simp only [D.noE]; exact bels_noE n l h
theorem bels_noE (n : Nat) : ∀ ds : List D, D.bels n ds = true → D.noEs ds = true
  | [], _ => rfl
  | d :: ds, h => by
    simp only [D.bels, Bool.and_eq_true] at h
    simp only [D.noEs, bel_noE n d h.1, bels_noE n ds h.2, Bool.and_self]
end
mutual
theorem keyly_noE : ∀ d : D, D.keyly d = true → D.noE d = true
  | .non, _ => rfl
  | .bl _, _ => rfl
  | .int _, _ => rfl
  | .str _, _ => rfl
  | .obj _, h => by simp [D.keyly] at h
  | .tup l, h => by simp only [D.keyly] at h; simp only [D.noE]; exact keylys_noE l h
  | .lst _, h => by simp [D.keyly] at h
  | .exn _ _ _, h => by simp [D.keyly] at h
  | .ins _ _ _, h => by simp [D.keyly] at h
theorem keylys_noE : ∀ ds : List D, D.keylys ds = true → D.noEs ds = true
  | [], _ => rfl
  | d :: ds, h => by
    simp only [D.keylys, Bool.and_eq_true] at h
    simp only [D.noEs, keyly_noE d h.1, keylys_noE ds h.2, Bool.and_self]
end
abbrev Kb.hxs (K : Kb) (h : Option (Addr × Value × Option Addr)) : Kb := ⟨K.K, K.P, K.w, K.mg, h⟩
mutual
theorem DRel.hxe {K : Kb} {W : Wd} (h : Option (Addr × Value × Option Addr)) : ∀ (d : D) (v : V), D.noE d = true → DRel K W d v → DRel (K.hxs h) W d v
  | .non, _, _, q => q
  | .bl _, _, _, q => q
  | .int _, _, _, q => q
  | .str _, _, _, q => q
  | .obj _, _, _, q => q
  | .tup l, v, b, q => by
    simp only [DRel, D.noE] at q b ⊢
    obtain ⟨a, xs, e, t, r⟩ := q
    exact ⟨a, xs, e, t, DRels.hxe h l xs b r⟩
  | .lst l, v, b, q => by
    simp only [DRel, D.noE] at q b ⊢
    obtain ⟨a, xs, e, t, r⟩ := q
    exact ⟨a, xs, e, t, DRels.hxe h l xs b r⟩
  | .exn _ _ _, _, b, _ => by simp [D.noE] at b
  | .ins c ns ds, v, b, q => by
    simp only [DRel, D.noE] at q b ⊢
    obtain ⟨a, C, dx, xs, e, hC, h1, f1, h2, f2, hl, r⟩ := q
    exact ⟨a, C, dx, xs, e, hC, h1, f1, h2, f2, hl, DRels.hxe h ds xs b r⟩
theorem DRels.hxe {K : Kb} {W : Wd} (h : Option (Addr × Value × Option Addr)) : ∀ (ds : List D) (vs : List V), D.noEs ds = true → DRels K W ds vs → DRels (K.hxs h) W ds vs
  | [], _, _, q => q
  | d :: ds, _, b, q => by
    simp only [DRels, D.noEs, Bool.and_eq_true] at q b ⊢
    obtain ⟨v, r, e, h1, h2⟩ := q
    exact ⟨v, r, e, DRel.hxe h d v b.1 h1, DRels.hxe h ds r b.2 h2⟩
end
mutual
theorem DRel.calm {K : Kb} {W : Wd} (hn : K.hx = none) : ∀ (d : D) (v : V), DRel K W d v → D.noE d = true
  | .non, _, _ => rfl
  | .bl _, _, _ => rfl
  | .int _, _, _ => rfl
  | .str _, _, _ => rfl
  | .obj _, _, _ => rfl
  | .tup l, v, q => by
    simp only [DRel] at q
    obtain ⟨a, xs, e, t, r⟩ := q
    simp only [D.noE]
    exact DRels.calm hn l xs r
  | .lst l, v, q => by
    simp only [DRel] at q
    obtain ⟨a, xs, e, t, r⟩ := q
    simp only [D.noE]
    exact DRels.calm hn l xs r
  | .exn _ _ _, _, q => by
    simp only [DRel] at q
    obtain ⟨a, cls, od, e, _⟩ := q
    rw [hn] at e; cases e
  | .ins c ns ds, _, q => by
    simp only [DRel] at q
    obtain ⟨a, C, dx, xs, e, hC, h1, f1, h2, f2, hl, r⟩ := q
    simp only [D.noE]
    exact DRels.calm hn ds xs r
theorem DRels.calm {K : Kb} {W : Wd} (hn : K.hx = none) : ∀ (ds : List D) (vs : List V), DRels K W ds vs → D.noEs ds = true
  | [], _, _ => rfl
  | d :: ds, _, q => by
    simp only [DRels] at q
    obtain ⟨v, r, e, h1, h2⟩ := q
    simp only [D.noEs, DRel.calm hn d v h1, DRels.calm hn ds r h2, Bool.and_self]
end
theorem ORel.hxe {K : Kb} {W : Wd} {i : Nat} {a : Addr} (h : Option (Addr × Value × Option Addr)) : ∀ {o : MO}, ORel K W i a o → ORel (K.hxs h) W i a o
  | .lst l, ⟨xs, h1, h2, h3, h4⟩ => ⟨xs, h1, DRels.hxe h l xs (bels_noE i l h3) h2, h3, h4⟩
  | .dct _ l, ⟨xs, h1, h2, h3, h4, h5⟩ => ⟨xs, h1, h2, h3, h4, Paired.mapP h5 fun p x q => by
    obtain ⟨q1, q2, q3, ⟨v, q4, q5⟩, q6⟩ := q
    exact ⟨q1, q2, DRel.hxe h _ _ (keyly_noE _ (by
      cases e : p.1 with
      | tup l => rw [e] at q1; simp only [D.isKey, Bool.and_eq_true] at q1; exact q1.1
      | _ => rw [e] at q1; simp [D.isKey] at q1)) q3, ⟨v, DRel.hxe h _ _ (bel_noE i _ q6) q4, q5⟩, q6⟩⟩
  | .dks _ l, ⟨kvs, h1, h2⟩ => ⟨kvs, h1, Paired.mapP h2 fun p x q => ⟨q.1, DRel.hxe h _ _ (bel_noE i _ q.2.2) q.2.1, q.2.2⟩⟩
  | .ins c fs, ⟨C, dx, xs, h1, h2, h3, h4, h5, h6, h7⟩ => ⟨C, dx, xs, h1, h2, h3, h4, h5, by
    have key : ∀ {fs : List (Str × D)} {xs : List (Str × V)}, Paired (FRel K W) fs xs → D.bels i (fs.map (·.2)) = true → Paired (FRel (K.hxs h) W) fs xs := by
      intro fs xs p
      induction p with
      | nil => intro _; exact .nil
      | cons r t ih =>
        intro b
        simp only [List.map_cons, D.bels, Bool.and_eq_true] at b
        exact .cons ⟨r.1, DRel.hxe h _ _ (bel_noE i _ b.1) r.2⟩ (ih b.2)
    exact key h6 h7, h7⟩
theorem MRel.hxe {K : Kb} {W : Wd} {M : Mem} (h : Option (Addr × Value × Option Addr)) (m : MRel K W M) : MRel (K.hxs h) W M := ⟨m.len, m.nd, fun i a o h1 h2 => (m.obj i a o h1 h2).hxe h, m.pv, m.kk⟩
def noEE (r : EV) : Bool := r.all fun o => match o with
  | some d => D.noE d
  | none => true
theorem SRel.hxe {K : Kb} {W : Wd} {s : L2.St} {r : EV} (h : Option (Addr × Value × Option Addr)) (b : noEE r = true) (q : SRel K W s r) : SRel (K.hxs h) W s r := ⟨q.len, fun i d e => by
  obtain ⟨v, e1, e2⟩ := q.get i d e
  have := List.all_eq_true.mp b _ (List.mem_of_getElem? e)
  exact ⟨v, e1, DRel.hxe h d v this e2⟩⟩
theorem SRel.calm {K : Kb} {W : Wd} {s : L2.St} {r : EV} (hn : K.hx = none) (q : SRel K W s r) (h : Option (Addr × Value × Option Addr)) : SRel (K.hxs h) W s r := ⟨q.len, fun i d e => by
  obtain ⟨v, e1, e2⟩ := q.get i d e
  exact ⟨v, e1, DRel.hxe h d v (DRel.calm hn d v e2) e2⟩⟩
variable {T : Tb} {C : CC}
/-! ### raise X() -/
def mRse (c : Str) : MS := fun _ r M => .ok (.rse ⟨c, []⟩ r) M
theorem pmk_own0 {X : Cx} {c : Str} {p pos : Pos} {D0 : Addr} (hm : X.mg c = some (.ref D0)) (hk : PySem.W.keepIn X.K (.ref D0) = true) (hx : PySem.W.excIn X.K D0 [.type "ValueError", .type "Exception", .type "BaseException", .type "object"] "ValueError.__new__" = true) (hr : Raises X (.ref D0)) (hg : Gl X c) (hdb : (c == ("__debug__" : Str)) = false) : PMk X (.Call (.Name c p) [] [] pos) (fun _ H Q => Q (.ref D0) none H) := by
  intro pins s σ H Q I q
  refine wpAny_Call_Name_kw (ld_glob I hg hm ?_ hdb)
  refine PySem.W.callWith_K0 I.kIn hk ?_
  obtain ⟨_, _, _, _, _, _, _, _, _, _, _, _, _, _, _, _, _, y1, y2, y3, y4⟩ := exc_obj I.kIn hx
  exact wpAny_call_exc_subT (rest := []) F.excBase_ValueError y4 y1 y2 y3 (fun h' e z => mk_of I z hr q (I.hok.gone z.new)) (by decide)
theorem ok_raise (hq : C.calm = true) {c : Str} {p pos pos2 : Pos} (hc : c ∈ T.exs) (hg : C.sc.names.lookup c = some .globalImplicit) (hdb : (c == ("__debug__" : Str)) = false) : OkS T C (.Raise (some (.Call (.Name c p) [] [] pos)) none pos2) (mRse c) := by
  intro n X wx h
  obtain ⟨D0, g1, g2, g3, g4, g5⟩ := h.exs c hc
  refine PS.of (ps_raise (h.calm.trans hq) h.tk (pmk_own0 g1 g2 g3 (raises_own g4 g5) (gl_of h hg) hdb)) fun Dn s H q => ?_
  obtain ⟨mu, M, r, mr, sr, sat⟩ := q
  exact ⟨⟨c, []⟩, mu, ⟨g1, rfl⟩, sat.ok mr s sr⟩
end RI

set_option maxHeartbeats 4000000
namespace RI
open PySem PySem.Spec PyProof.Rows L2
variable {T : Tb} {C : CC}
/-! ### try .. except X: .. -/
def exmD (E : List (Str × Str × Bool)) (c a : Str) : Option Bool := (E.find? fun p => decide (p.1 = c) && decide (p.2.1 = a)).map (·.2.2)
theorem exmD_mem {c a : Str} {b : Bool} (h : exmD T.exm c a = some b) : (c, a, b) ∈ T.exm := by
  unfold exmD at h
  cases e : T.exm.find? fun p => decide (p.1 = c) && decide (p.2.1 = a) with
  | none => rw [e] at h; cases h
  | some p =>
    rw [e] at h
    have h1 := List.find?_some e
    have h2 := List.mem_of_find?_eq_some e
    simp only [Bool.and_eq_true, decide_eq_true_eq] at h1
    obtain ⟨p1, p2, p3⟩ := p
    simp only [Option.map_some, Option.some.injEq] at h h1
    obtain ⟨rfl, rfl⟩ := h1
    subst h
    exact h2
def clrE (i : Option Nat) (r : EV) : EV := match i with
  | some i => r.set i none
  | none => r
/-- behind a suite: its exception is gone -/
def suiteEnd (i : Option Nat) (f : Fl) (M : Mem) : Res Fl := match f with
  | .next r => if noEE (clrE i r) = true then .ok (.next (clrE i r)) M else .bad
  | .brk r => if noEE (clrE i r) = true then .ok (.brk (clrE i r)) M else .bad
  | .cont r => if noEE (clrE i r) = true then .ok (.cont (clrE i r)) M else .bad
  | .ret d => if D.noE d = true then .ok (.ret d) M else .bad
  | .rse _ _ => .bad
def hdls (E : List (Str × Str × Bool)) (x : Ex) (F : FT) (r : EV) (M : Mem) : List (Str × MS) → Res Fl
  | [] => .ok (.rse x r) M
  | (a, ms) :: hs => match exmD E x.cls a with
    | some true => (ms F r M).bind (suiteEnd none)
    | some false => hdls E x F r M hs
    | none => .bad
def mTry (E : List (Str × Str × Bool)) (mb : MS) (hs : List (Str × MS)) : MS := fun F r M => (mb F r M).bind fun f M1 => match f with
  | .rse x r1 => hdls E x F r1 M1 hs
  | f => .ok f M1
abbrev CC.suite (C : CC) : CC := { C with calm := false, top := false }
inductive OkH (T : Tb) (C : CC) : List ExceptHandler → List (Str × MS) → Prop where
  | nil : OkH T C [] []
  | cons {a : Str} {np pos : Pos} {b0 : Stmt} {suite : List Stmt} {ms : MS} {hds : List ExceptHandler} {hs : List (Str × MS)} (hg : C.sc.names.lookup a = some .globalImplicit) (hd : (a == ("__debug__" : Str)) = false) (hs' : OkSs T C.suite (b0 :: suite) ms) (t : OkH T C hds hs) :
      OkH T C (.ExceptHandler (some (.Name a np)) none (b0 :: suite) pos :: hds) ((a, ms) :: hs)
theorem KRel.hxe {K : Kb} (hn : K.hx = none) (h : Option (Addr × Value × Option Addr)) {d : D} {v : V} (q : KRel K d v) : KRel (K.hxs h) d v := fun W => DRel.hxe h d v (DRel.calm hn d v (q W)) (q W)
theorem CxOk.suite {n : Nat} {X : Cx} {wx : Ex → L2.St → Wd → Prop} (h : CxOk T n C X wx) (hq : C.calm = true) (a : Addr) (pn : List (Addr × Obj)) : CxOk T n C.suite (X.suite a pn) (fun _ _ _ => False) where
  sc := h.sc
  N := h.N
  nd := h.nd
  fn := h.fn
  kind := h.kind
  calm := rfl
  un := h.un
  room := fun z => by cases z
  stk := fun z => by cases z
  pas := PassesOwn.never
  tk := Takes.imp takes0 fun _ _ _ _ q => by
    obtain ⟨_, _, _, z⟩ := q
    exact z
  con := fun x d hl => by
    obtain ⟨u, v, e1, e2, e3⟩ := h.con x d hl
    exact ⟨u, v, e1, e2, KRel.hxe (K := kb X) (if_pos (h.calm.trans hq)) _ e3⟩
  blt := h.blt
  exs := h.exs
  exm := h.exm
  fns := h.fns
  fld := h.fld
  kds := h.kds
/-- the wish about exceptions, as it is told by data -/
def wxW (K : Kb) (W : WX) : Ex → L2.St → Wd → Prop := fun x σ V => ∀ cls d, ExRel K V x cls d → W cls d σ V.H
theorem CxOk.tr {n : Nat} {X : Cx} {wx : Ex → L2.St → Wd → Prop} (h : CxOk T n C X wx) (hq : C.calm = true) {W : WX} {pn : List (Addr × Obj)} {xe : Value → Shared → Prop} (tk : Takes (X.tr pn xe) W) (pas : PassesOwn (model X.prog X.w) X.A X.env xe) : CxOk T n C (X.tr pn xe) (wxW (kb X) W) := by
  have e : kb (X.tr pn xe) = kb X := by
    have h1 : hxOf X = none := if_pos (h.calm.trans hq)
    have h2 : hxOf (X.tr pn xe) = none := if_pos (h.calm.trans hq)
    unfold kb
    rw [h1, h2]
  exact {
    sc := h.sc, N := h.N, nd := h.nd, fn := h.fn, kind := h.kind, calm := h.calm, un := h.un, room := h.room, stk := h.stk, pas := pas
    tk := Takes.imp tk fun cls d σ H q => by
      obtain ⟨x, mu, er, z⟩ := q
      rw [e] at er
      exact z cls d er
    con := by rw [e]; exact h.con
    blt := h.blt, exs := h.exs, exm := h.exm, fns := h.fns, fld := h.fld, kds := h.kds }
theorem kx_tr {n : Nat} {X : Cx} {wx wx' : Ex → L2.St → Wd → Prop} (h : CxOk T n C X wx) (hq : C.calm = true) (pn : List (Addr × Obj)) (xe : Value → Shared → Prop) : kx (X.tr pn xe) wx' = kx X wx' := by
  have h1 : hxOf X = none := if_pos (h.calm.trans hq)
  have h2 : hxOf (X.tr pn xe) = none := if_pos (h.calm.trans hq)
  unfold kx kb
  rw [h1, h2]
/-- the suites' readings -/
abbrev suK (X : Cx) (a : Addr) (cls : Value) (d : Option Addr) : Kx := ⟨(kb X).hxs (some (a, cls, d)), fun _ _ _ => False, []⟩
def lds (X : Cx) (F : FT) : List (Value × MS) → List (Value × (Addr → Value → Option Addr → TS)) := List.map fun p => (p.1, fun a cls d => rdS (suK X a cls d) F p.2)
theorem hds_ok {n : Nat} {X : Cx} {wx : Ex → L2.St → Wd → Prop} (h : CxOk T n C X wx) (hq : C.calm = true) : ∀ {hds : List ExceptHandler} {hs : List (Str × MS)}, OkH T C hds hs → ∀ {vs : List (Value × MS)}, Paired (fun p q => X.mg p.1 = some q.1 ∧ p.2 = q.2) hs vs → HdsOk X hds (lds X (callF T n) vs)
  | _, _, .nil, _, pr => by cases pr; exact .nil
  | _, _, .cons (a := a0) (ms := ms) hg hd hs' t, _, pr => by
    cases pr with
    | @cons _ q _ l hp pr =>
      obtain ⟨c, m⟩ := q
      obtain ⟨h1, h2⟩ := hp
      simp only at h1 h2
      subst h2
      refine HdsOk.cons (c := c) ⟨gl_of h hg, hd, .inl h1⟩ (fun a oe cls d pn hz hf => ?_) (hds_ok h hq t pr)
      have q := hs' n _ _ (h.suite hq a ((a, oe) :: pn))
      have e : kx (X.suite a ((a, oe) :: pn)) (fun _ _ _ => False) = suK X a cls d := by
        obtain ⟨z1, z2⟩ := hz
        unfold kx kb
        have : hxOf (X.suite a ((a, oe) :: pn)) = some (a, cls, d) := by
          unfold hxOf
          rw [if_neg (by simp)]
          simp [z1, z2]
        rw [this]
      rw [e] at q
      exact q
/-- behind the suite -/
theorem suite_end {X : Cx} {a : Addr} {cls : Value} {d : Option Addr} {W : Wd} {r : Res Fl} {wx : Ex → L2.St → Wd → Prop} {Dn : Ends} (hn : (kb X).hx = none) (h : Sat (kb X).no W (r.bind (suiteEnd none)) (PF (kx X wx) Dn)) : Sat (suK X a cls d).b.no W r (PF (suK X a cls d) Dn) := by
  have back : ∀ {V : Wd} {M : Mem}, MRel (suK X a cls d).b V M → MRel (kb X) V M := fun m => by
    have := m.hxe (kb X).hx
    exact this
  have backS : ∀ {V : Wd} {s : L2.St} {r : EV}, noEE r = true → SRel (suK X a cls d).b V s r → SRel (kb X) V s r := fun b m => by
    have := m.hxe (kb X).hx b
    exact this
  cases r with
  | bad => exact h.elim
  | exc x M => exact fun W' l m => h W' l (back m)
  | ok f M =>
    have h : Sat (kb X).no W (suiteEnd none f M) (PF (kx X wx) Dn) := h
    cases f with
    | next r1 =>
      obtain ⟨b, h⟩ := sat_ite h
      exact fun W' l m s sr => h W' l (back m) s (backS b sr)
    | brk r1 =>
      obtain ⟨b, h⟩ := sat_ite h
      exact fun W' l m s sr => h W' l (back m) s (backS b sr)
    | cont r1 =>
      obtain ⟨b, h⟩ := sat_ite h
      exact fun W' l m s sr => h W' l (back m) s (backS b sr)
    | ret d1 =>
      obtain ⟨b, h⟩ := sat_ite h
      refine fun W' l m v dv => h W' l (back m) v ?_
      have := DRel.hxe (kb X).hx d1 v b dv
      exact this
    | rse x r1 => exact h.elim
theorem ok_try (hq : C.calm = true) (ht : C.top = true) {body : List Stmt} {h0 : ExceptHandler} {hds : List ExceptHandler} {pos : Pos} {mb : MS} {hs : List (Str × MS)} (hb : OkSs T C body mb) (hh : OkH T C (h0 :: hds) hs) (hne : ∀ p ∈ hs, ∃ q ∈ T.exm, q.2.1 = p.1) : OkS T C (.Try body (h0 :: hds) [] [] pos) (mTry T.exm mb hs) := by
  intro n X wx h
  obtain ⟨hst, hfr⟩ := h.stk ht
  have hn : (kb X).hx = none := if_pos (h.calm.trans hq)
  have vals : ∀ hs : List (Str × MS), (∀ p ∈ hs, ∃ q ∈ T.exm, q.2.1 = p.1) → ∃ vs : List (Value × MS), Paired (fun p q => X.mg p.1 = some q.1 ∧ p.2 = q.2) hs vs := by
    intro hs
    induction hs with
    | nil => intro _; exact ⟨[], .nil⟩
    | cons p hs ih =>
      intro hne
      obtain ⟨q, hq1, hq2⟩ := hne p List.mem_cons_self
      obtain ⟨_, A, _, g2, _⟩ := h.exm q hq1
      obtain ⟨vs, hv⟩ := ih fun z hz => hne z (List.mem_cons_of_mem _ hz)
      exact ⟨(.ref A, p.2) :: vs, .cons ⟨by rw [← hq2]; exact g2, rfl⟩ hv⟩
  obtain ⟨vs, hv⟩ := vals hs hne
  refine PS.of (ps_try_many (tb := fun W => rdS (kx X (wxW (kb X) W)) (callF T n) mb) hst hfr h.tk (fun W pn xe tk pas => by rw [← kx_tr h hq pn xe]; exact hb n _ _ (h.tr hq tk pas)) (hds_ok h hq hh hv)) fun Dn s H q => ?_
  obtain ⟨mu, M, r, mr, sr, sat⟩ := q
  refine ⟨mu, M, r, mr, sr, (Sat.bind (show Sat (kb X).no ⟨H, mu⟩ ((mb (callF T n) r M).bind _) _ from sat)).imp fun f M1 W1 l1 m1 s1 => ?_⟩
  cases f with
  | next r1 => exact Sat.ok (show Sat _ _ (Res.ok (Fl.next r1) M1) _ from s1) m1
  | brk r1 => exact Sat.ok (show Sat _ _ (Res.ok (Fl.brk r1) M1) _ from s1) m1
  | cont r1 => exact Sat.ok (show Sat _ _ (Res.ok (Fl.cont r1) M1) _ from s1) m1
  | ret d => exact Sat.ok (show Sat _ _ (Res.ok (Fl.ret d) M1) _ from s1) m1
  | rse x r1 =>
    intro s' sr' cls d er
    replace s1 : Sat (kb X).no W1 (hdls T.exm x (callF T n) r1 M1 hs) (PF (kx X wx) Dn) := s1
    replace sr' : SRel (kb X) W1 s' r1 := sr'
    replace er : ExRel (kb X) W1 x cls d := er
    clear hh hne sat
    induction hv with
    | nil =>
      exact ⟨x, W1.mu, er, s1.ok m1 s' sr'⟩
    | @cons p q l l' hp t ih =>
      obtain ⟨a0, ms⟩ := p
      obtain ⟨c, m⟩ := q
      obtain ⟨h1, h2⟩ := hp
      simp only at h1 h2
      subst h2
      simp only [hdls] at s1
      cases e : exmD T.exm x.cls a0 with
      | none => rw [e] at s1; exact s1.elim
      | some b =>
        obtain ⟨D0, A, g1, g2, g3⟩ := h.exm _ (exmD_mem e)
        simp only at g1 g2 g3
        have c1 : cls = .ref D0 := by
          have := er.1
          have g1 : (kb X).mg x.cls = some (.ref D0) := g1
          rw [g1] at this; cases this; rfl
        have c2 : c = .ref A := by rw [g2] at h1; cases h1; rfl
        subst c1 c2
        rw [e] at s1
        refine ⟨b, g3, fun hb a ha => ?_, fun hb => ?_⟩
        · subst hb
          refine ⟨W1.mu, M1, r1, m1.hxe _, sr'.calm hn _, suite_end hn s1⟩
        · subst hb
          exact ih s1
end RI

set_option maxHeartbeats 4000000
namespace RI
open PySem PySem.Spec PyProof.Rows L2
variable {T : Tb} {C : CC}
/-! ### attributes of instances -/
theorem look_frel {K : Kb} {W : Wd} {f : Str} : ∀ {fs : List (Str × D)} {xs : List (Str × V)} {v : D}, Paired (FRel K W) fs xs → fs.lookup f = some v → ∃ x, xs.lookup f = some x ∧ DRel K W v x
  | _, _, _, .nil, h => by cases h
  | _, _, v, .cons (a := p) (b := x) (l₁ := fs) (l₂ := xs) r t, h => by
    obtain ⟨p1, p2⟩ := p
    obtain ⟨x1, x2⟩ := x
    obtain ⟨r1, r2⟩ := r
    simp only at r1 r2
    subst r1
    by_cases e : f == p1
    · simp only [List.lookup_cons, e, Option.some.injEq] at h ⊢
      subst h
      exact ⟨x2, rfl, r2⟩
    · have e' : (f == p1) = false := by simpa using e
      simp only [List.lookup_cons, e'] at h ⊢
      exact look_frel t h
theorem look_zip {K : Kb} {W : Wd} {f : Str} : ∀ {ns : List Str} {ds : List D} {xs : List V} {v : D}, DRels K W ds xs → (ns.zip ds).lookup f = some v → ∃ x, (ns.zip xs).lookup f = some x ∧ DRel K W v x
  | [], _, _, _, _, h => by simp at h
  | n :: ns, [], _, _, _, h => by simp at h
  | n :: ns, d :: ds, xs, v, r, h => by
    simp only [DRels] at r
    obtain ⟨x, xs', rfl, r1, r2⟩ := r
    by_cases e : f == n
    · simp only [List.zip_cons_cons, List.lookup_cons, e, Option.some.injEq] at h ⊢
      subst h
      exact ⟨x, rfl, r1⟩
    · have e' : (f == n) = false := by simpa using e
      simp only [List.zip_cons_cons, List.lookup_cons, e'] at h ⊢
      exact look_zip r2 h
def fldD (fl : List (Str × Str)) (f : Str) (d : D) (M : Mem) : Res D := match d with
  | .ins c ns ds => if fl.contains (c, f) = true then (match (ns.zip ds).lookup f with | some v => .ok v M | none => .bad) else .bad
  | .obj j => match M[j]? with
    | some (.ins c fs) => if fl.contains (c, f) = true then (match fs.lookup f with | some v => .ok v M | none => .bad) else .bad
    | _ => .bad
  | _ => .bad
def mFld (fl : List (Str × Str)) (f : Str) (m : ME) : ME := fun F r M => (m F r M).bind fun d M1 => fldD fl f d M1
theorem cls_eq {n : Nat} {X : Cx} {wx : Ex → L2.St → Wd → Prop} (h : CxOk T n C X wx) {c f : Str} {A : Addr} (hc : T.fld.contains (c, f) = true) (hm : X.mg c = some (.ref A)) : Cls X.K A ∧ NoAttr X.K A f := by
  obtain ⟨A', h1, h2, h3⟩ := h.fld (c, f) (by simpa using hc)
  rw [hm] at h1
  cases h1
  exact ⟨h2, h3⟩
theorem ok_fld {e : Expr} {f : Str} {pos : Pos} {m : ME} (hb : noSup e = true) (he : OkE T C e m) : OkE T C (.Attribute e f pos) (mFld T.fld f m) := by
  intro n X wx h
  refine PE.of (pe_fld (he n X wx h) (nsb hb)) fun s H Q q => ?_
  obtain ⟨mu, M, r, mr, sr, sat⟩ := q
  refine ⟨mu, M, r, mr, sr, sat.bind.imp fun d M1 W1 l1 m1 s1 v dv => ?_⟩
  unfold fldD at s1
  cases d with
  | ins c ns ds =>
    simp only at s1
    obtain ⟨hc, s1⟩ := sat_ite s1
    simp only [DRel] at dv
    obtain ⟨a, A, dx, xs, rfl, hm, ha, _, _, _, hl, dr⟩ := dv
    obtain ⟨k1, k2⟩ := cls_eq h hc hm
    split at s1
    · rename_i v' ev
      obtain ⟨x, ex, dx'⟩ := look_zip dr ev
      exact ⟨a, A, dx, _, x, rfl, ha, k1, k2, ex, s1.ok m1 _ dx'⟩
    · exact s1.elim
  | obj j =>
    simp only at s1
    simp only [DRel] at dv
    obtain ⟨a, rfl, ha⟩ := dv
    cases ej : M1[j]? with
    | none => rw [ej] at s1; exact s1.elim
    | some o =>
      rw [ej] at s1
      cases o with
      | ins c fs =>
        simp only at s1
        obtain ⟨hc, s1⟩ := sat_ite s1
        obtain ⟨A, dx, xs, hm, hA, _, _, _, pr, _⟩ := m1.obj j a _ ha ej
        obtain ⟨k1, k2⟩ := cls_eq h hc hm
        split at s1
        · rename_i v' ev
          obtain ⟨x, ex, dx'⟩ := look_frel pr ev
          exact ⟨a, A, dx, xs, x, rfl, hA, k1, k2, ex, s1.ok m1 _ dx'⟩
        · exact s1.elim
      | _ => exact s1.elim
  | _ => exact s1.elim
theorem pair_len {A B : Type} {R : A → B → Prop} {l : List A} {l' : List B} (p : Paired R l l') : l.length = l'.length := by
  induction p with
  | nil => rfl
  | cons _ _ ih => simp only [List.length_cons, ih]
/-! ### self.f = e -/
def putD (f : Str) (v : D) : List (Str × D) → List (Str × D)
  | [] => [(f, v)]
  | (g, x) :: r => if g = f then (g, v) :: r else (g, x) :: putD f v r
theorem put_frel {K : Kb} {W : Wd} {f : Str} {v : D} {y : V} (hv : DRel K W v y) : ∀ {fs : List (Str × D)} {xs : List (Str × V)}, Paired (FRel K W) fs xs → Paired (FRel K W) (putD f v fs) (putF f y xs)
  | _, _, .nil => .cons ⟨rfl, hv⟩ .nil
  | _, _, .cons (a := p) (b := x) (l₁ := fs) (l₂ := xs) r t => by
    obtain ⟨p1, p2⟩ := p
    obtain ⟨x1, x2⟩ := x
    obtain ⟨r1, r2⟩ := r
    simp only at r1 r2
    subst r1
    simp only [putD, putF]
    by_cases e : p1 = f
    · rw [if_pos e, if_pos e]
      exact .cons ⟨rfl, hv⟩ t
    · rw [if_neg e, if_neg e]
      exact .cons ⟨rfl, r2⟩ (put_frel hv t)
theorem put_bels {i : Nat} {f : Str} {v : D} (hv : D.bel i v = true) : ∀ {fs : List (Str × D)}, D.bels i (fs.map (·.2)) = true → D.bels i ((putD f v fs).map (·.2)) = true
  | [], _ => by simp [putD, D.bels, hv]
  | (g, x) :: r, h => by
    simp only [List.map_cons, D.bels, Bool.and_eq_true] at h
    simp only [putD]
    split
    · simp only [List.map_cons, D.bels, hv, h.2, Bool.and_self]
    · simp only [List.map_cons, D.bels, h.1, put_bels hv h.2, Bool.and_self]
def setFD (fl : List (Str × Str)) (f : Str) (v o : D) (M : Mem) : Res Unit := match o with
  | .obj j => match M[j]? with
    | some (.ins c fs) => if (fl.contains (c, f) && D.bel j v && Nat.ble fs.length 999) = true then .ok () (M.set j (.ins c (putD f v fs))) else .bad
    | _ => .bad
  | _ => .bad
def mSetF (fl : List (Str × Str)) (f : Str) (mv mo : ME) : MS := fun F r M => (mv F r M).toS r fun v M1 => (mo F r M1).toS r fun o M2 => (setFD fl f v o M2).bind fun _ M3 => .ok (.next r) M3
theorem ok_setF {o e : Expr} {f : Str} {p pos : Pos} {mv mo : ME} (hs : ∀ env : Env, swapsWith e (some (.Attribute o f p)) pos.line env = pure false) (ho : OkE T C o mo) (he : OkE T C e mv) : OkS T C (.Assign [.Attribute o f p] e pos) (mSetF T.fld f mv mo) := by
  intro n X wx h
  refine PS.of (ps_fld (ho n X wx h) (he n X wx h) (hs X.env)) fun Dn s H q => ?_
  obtain ⟨mu, M, r, mr, sr, sat⟩ := q
  refine ⟨mu, M, r, mr, sr, (Sat.toS sat sr).imp fun v M1 W1 l1 m1 s1 y dy => ?_⟩
  refine ⟨W1.mu, M1, r, m1, sr.le l1, (Sat.toS s1 (sr.le l1)).imp fun d M2 W2 l2 m2 s2 x dx => ?_⟩
  unfold setFD at s2
  cases d with
  | obj j =>
    simp only at s2
    simp only [DRel] at dx
    obtain ⟨a, rfl, ha⟩ := dx
    cases ej : M2[j]? with
    | none => rw [ej] at s2; exact s2.elim
    | some ob =>
      rw [ej] at s2
      cases ob with
      | ins c fs =>
        simp only at s2
        by_cases hc : (T.fld.contains (c, f) && D.bel j v && Nat.ble fs.length 999) = true
        · rw [if_pos hc] at s2
          simp only [Bool.and_eq_true] at hc
          obtain ⟨⟨hc1, hc2⟩, hc3⟩ := hc
          obtain ⟨A, dx, xs, hm, hA, hk, hd, fz, pr, bl⟩ := m2.obj j a _ ha ej
          obtain ⟨k1, k2⟩ := cls_eq h hc1 hm
          have hlen : xs.length < 1000 := by
            have := Nat.le_of_ble_eq_true hc3
            have e := pair_len pr
            omega
          refine ⟨a, A, dx, xs, rfl, hA, k1, k2, hlen, ?_⟩
          have dy2 := DRel.le l2 v y dy
          obtain ⟨l3, m3⟩ := m2.wroteO ha hk (.ins A dx (putF f y xs)) (.ins c (putD f v fs)) fun W' lk e ek => by
            have keep := lk.keep dx _ hd fz
            exact ⟨A, dx, putF f y xs, hm, e, ek, keep.1, keep.2, put_frel (DRel.lk lk v y dy2) (Paired.mapP pr fun _ _ q => q.lk lk), put_bels hc2 bl⟩
          exact s2 _ l3 m3 s (((sr.le l1).le l2).le l3)
        · rw [if_neg hc] at s2; exact s2.elim
      | _ => exact s2.elim
  | _ => exact s2.elim
end RI

set_option maxHeartbeats 4000000
namespace RI
open PySem PySem.Spec PyProof.Rows L2
variable {T : Tb} {C : CC}
/-! ### a class, called -/
section
variable {X : Cx} {k : Nat} {f A : Addr} {fd : FuncData} {ps : List Str} {sp : Sp} {x : Str} {p pos : Pos} {e : Expr} {es : List Expr} {t : TA} {Wx : WX}
theorem run_makeS {pins : List (Addr × Obj)} {σ : L2.St} {H : Hp} {s : Shared} {Q : VK} {us : List Value} {vs : List V} (mk : Mk X.K A f) (F : FnOk X.prog X.w X.K X.mg X.base (L2.CX X.prog X.w) k f fd ps sp) (hr : Room (k + 1) X.A) (hb : Binds X.K fd ps []) (tk : Takes X Wx)
    (I : Inv X pins σ H s) (r : Vals vs us) (h : ∀ y dx, H y = none → H dx = none → dx ≠ y → sp (.ref y :: vs) (upd (upd H dx (.own y)) y (.ins A dx [])) (fun v H2 => v = .non ∧ Q (.ref y) H2) (fun cls d H' => Wx cls d σ H')) :
    wpAny (model X.prog X.w) X.A (call (.ref A) us) (EP X pins σ Q) X.xe s := by
  have q := h (s.heap.objs.size + 1) s.heap.objs.size (I.hok.fresh (Nat.le_succ _)) (I.hok.fresh (Nat.le_refl _)) (Nat.ne_of_lt (Nat.lt_succ_self _))
  have J := Inv.made (C := A) I
  have r2 : Vals (V.ref (s.heap.objs.size + 1) :: vs) (Value.ref (s.heap.objs.size + 1) :: us) := .cons rfl r
  have hl : ((Value.ref (s.heap.objs.size + 1) :: us) ++ []).length = ps.length := by
    rw [List.append_nil, ← r2.length]; exact F.len _ _ _ _ q
  have hb' := hb _ (Value.ref (s.heap.objs.size + 1) :: us) J.kIn hl
  rw [List.append_nil] at hb'
  refine wpAny_call (make_map (f := f) I.kIn mk.makes mk.init (beq_iff_eq.mp mk.fn) (codeAny_mono (F.run _ X.stack _ _ ⟨Value.ref (s.heap.objs.size + 1) :: us, []⟩ _ _ _ _ (hr.make A us []) (J.env0.make A us []) hb' r2 q) fun r s' z => ?_))
  cases r with
  | error er => exact tk er s' (XE.of_call J (fun _ _ _ h => h) z)
  | ok fl =>
    cases fl with
    | ret u =>
      obtain ⟨v, H', J3, rv, ev, q3⟩ := J.after z
      subst ev
      exact ⟨rv, ⟨V.ref (s.heap.objs.size + 1), H', J3, rfl, q3⟩⟩
    | next => exact False.elim z
    | brk => exact False.elim z
    | cont => exact False.elim z
theorem pe_makeS (mk : Mk X.K A f) (F : FnOk X.prog X.w X.K X.mg X.base (L2.CX X.prog X.w) k f fd ps sp) (hr : Room (k + 1) X.A) (hg : Gl X x) (hm : X.mg x = some (.ref A)) (hb : Binds X.K fd ps []) (tk : Takes X Wx)
    (ha : PA X (e :: es) t) (hdb : (x == ("__debug__" : Str)) = false) (he : starEach (e :: es) X.env = (false, eval e X.env) :: starEach es X.env) (hpl : (backTo pos (starEach es X.env)).any (·.1) = false) :
    PE X (.Call (.Name x p) (e :: es) [] pos) (fun σ H Q => t σ H fun vs H1 => ∀ y dx, H1 y = none → H1 dx = none → dx ≠ y → sp (.ref y :: vs) (upd (upd H1 dx (.own y)) y (.ins A dx [])) (fun v H2 => v = .non ∧ Q (.ref y) H2) (fun cls d H' => Wx cls d σ H')) := by
  refine ⟨fun pins s σ H Q I h => ?_⟩
  refine wpAny_Call_Name_kw (ld_glob I hg hm ?_ hdb)
  refine PySem.W.callWith_K (h₀ := X.base) I.ok.mod.kin mk.kp (thn (ha.run pos pins s σ H _ I h) fun us s1 ⟨vs, H1, I1, r, q⟩ => ⟨I1.kIn, ?_⟩) he hpl
  exact run_makeS mk F hr hb tk I1 r q
end
def mMake (c : Str) (k : Nat) (ms : MA) : ME := fun F r M => (ms F r M).bind fun ds M1 => (F k (.obj M1.length :: ds) (M1 ++ [.ins c []])).bind fun d M2 => match d with
  | .non => .ok (.obj M1.length) M2
  | _ => .bad
theorem ok_make (hq : C.calm = true) {k : Nat} {f : Fn} {x : Str} {p pos : Pos} {e : Expr} {es : List Expr} {ms : MA} (hf : T.fns[k]? = some f) (hw : f.wh = .init x) (hg : C.sc.names.lookup x = some .globalImplicit) (hdb : (x == ("__debug__" : Str)) = false)
    (hs : (e :: es).all noStar = true) (ha : OkA T C (e :: es) ms) : OkE T C (.Call (.Name x p) (e :: es) [] pos) (mMake x k ms) := by
  intro n X wx h
  obtain ⟨a, fd, wh, hb, G⟩ := h.fns k f hf
  unfold FnWh at wh
  rw [hw] at wh
  obtain ⟨A, hm, mk⟩ := wh
  rw [← h.kbq hq] at G
  rw [List.all_cons, Bool.and_eq_true] at hs
  refine PE.of (pe_makeS mk G (h.room hq) (gl_of h hg) hm hb h.tk (ha n X wx h) hdb (noStar_each hs.1) (noStars_any hs.2)) fun s H Q q => ?_
  obtain ⟨mu, M, r, mr, sr, sat⟩ := q
  refine ⟨mu, M, r, mr, sr, sat.bind.imp fun ds M1 W1 l1 m1 s1 vs dvs y dx hy hdx hne => ?_⟩
  obtain ⟨l2, m2⟩ := m1.laid hdx (.own y)
  have hy2 : (⟨upd W1.H dx (.own y), W1.mu⟩ : Wd).H y = none := by
    show upd W1.H dx (.own y) y = none
    rw [upd_ne (Ne.symm hne)]; exact hy
  have fz2 : Fz (⟨upd W1.H dx (.own y), W1.mu⟩ : Wd) dx := m1.fresh hdx
  obtain ⟨l3, m3⟩ := m2.bornO hy2 (.ins A dx []) (.ins x []) fun W' lk e ek => by
    have kp := lk.keep dx _ (upd_same) fz2
    exact ⟨A, dx, [], hm, e, ek, kp.1, kp.2, .nil, rfl⟩
  have dy : DRel (kb X) ⟨upd (upd W1.H dx (.own y)) y (.ins A dx []), ⟨W1.mu.l ++ [y], W1.mu.p, W1.mu.k⟩⟩ (.obj M1.length) (.ref y) := by
    simp only [DRel]
    refine ⟨y, rfl, ?_⟩
    show (W1.mu.l ++ [y])[M1.length]? = some y
    rw [← m1.len, List.getElem?_append_right (Nat.le_refl _)]
    simp
  have s2 := s1.bind
  refine ⟨?_, ⟨W1.mu.l ++ [y], W1.mu.p, W1.mu.k⟩, M1 ++ [.ins x []], .obj M1.length :: ds, m3, ⟨.ref y, vs, rfl, dy, DRels.le (l2.trans l3) ds vs dvs⟩, ?_⟩
  · have := callF_len hf s2
    rw [← this, List.length_cons, List.length_cons, dvs.length]
  · have s3 := (s2.le (l2.trans l3)).call
    refine s3.imp fun d M2 W2 l4 m4 s4 v dv => ?_
    cases d with
    | non =>
      cases (show v = _ from dv)
      exact ⟨rfl, s4.ok m4 _ (DRel.le l4 _ _ dy)⟩
    | _ => exact s4.elim
/-! ### properties and methods -/
def clsD (M : Mem) : D → Option Str
  | .ins c _ _ => some c
  | .obj j => match M[j]? with
    | some (.ins c _) => some c
    | _ => none
  | _ => none
theorem clsD_at {K : Kb} {W : Wd} {M : Mem} (m : MRel K W M) {d : D} {v : V} {c : Str} (h : clsD M d = some c) (dv : DRel K W d v) : ∃ a A dx fs, v = .ref a ∧ K.mg c = some (.ref A) ∧ W.H a = some (.ins A dx fs) := by
  cases d with
  | ins c' ns ds =>
    cases h
    simp only [DRel] at dv
    obtain ⟨a, A, dx, xs, rfl, hm, ha, _⟩ := dv
    exact ⟨a, A, dx, _, rfl, hm, ha⟩
  | obj j =>
    simp only [DRel] at dv
    obtain ⟨a, rfl, ha⟩ := dv
    simp only [clsD] at h
    cases ej : M[j]? with
    | none => rw [ej] at h; cases h
    | some o =>
      rw [ej] at h
      cases o with
      | ins c' fs =>
        cases h
        obtain ⟨A, dx, xs, hm, hA, _⟩ := m.obj j a _ ha ej
        exact ⟨a, A, dx, xs, rfl, hm, hA⟩
      | _ => cases h
  | _ => cases h
/-- e.f, a property of the class c, whose getter is the k-th def -/
def mProp (c : Str) (k : Nat) (m : ME) : ME := fun F r M => (m F r M).bind fun d M1 => if clsD M1 d = some c then (F k [d] M1).noX else .bad
theorem ok_prop (hq : C.calm = true) {k : Nat} {fn : Fn} {c : Str} {e : Expr} {f : Str} {pos : Pos} {m : ME} (hf : T.fns[k]? = some fn) (hw : fn.wh = .prop c) (hn : fn.name = f) (hb : noSup e = true) (he : OkE T C e m) : OkE T C (.Attribute e f pos) (mProp c k m) := by
  intro n X wx h
  obtain ⟨g, fd, wh, hbd, G⟩ := h.fns k fn hf
  unfold FnWh at wh
  rw [hw] at wh
  obtain ⟨A, p, hm, hc, hp⟩ := wh
  rw [hn] at hp
  rw [← h.kbq hq] at G
  refine PE.of (pe_prop (E := fun _ _ _ => False) (he n X wx h) hc hp G (h.room hq) hbd .nil (fun pins σ H s er s' _ z => by
    obtain ⟨_, _, _, _, _, _, _, _, _, _, _, _, z⟩ := z
    exact z.elim) (nsb hb)) fun s H Q q => ?_
  obtain ⟨mu, M, r, mr, sr, sat⟩ := q
  refine ⟨mu, M, r, mr, sr, sat.bind.imp fun d M1 W1 l1 m1 s1 v dv => ?_⟩
  obtain ⟨hcl, s1⟩ := sat_ite s1
  obtain ⟨a, A', dx, fs, rfl, hm', ha⟩ := clsD_at m1 hcl dv
  have hm' : X.mg c = some (.ref A') := hm'
  rw [hm] at hm'
  cases hm'
  refine ⟨a, dx, fs, rfl, ha, ?_⟩
  have s2 := s1.noX
  have hl := callF_len hf s2
  refine ⟨by rw [← hl]; rfl, W1.mu, M1, [d], m1, ⟨.ref a, [], rfl, dv, rfl⟩, ?_⟩
  cases ec : callF T n k [d] M1 with
  | ok x M2 => rw [ec] at s2; exact s2
  | bad => rw [ec] at s2; exact s2
  | exc x M2 => rw [ec] at s2; exact fun W' l m cls d er => (s2 W' l m).elim
/-! ### o.m(..), a method of the class c -/
theorem pe_methS {X : Cx} {k : Nat} {g A : Addr} {fd : FuncData} {ps : List Str} {sp : Sp} {m : Str} {apos pos : Pos} {o e : Expr} {es : List Expr} {ta : TE} {t : TA} {Wx : WX} {pl : Sem Bool} (ho : PE X o ta) (c : Cls X.K A) (hm : Meth X.K A m g) (F : FnOk X.prog X.w X.K X.mg X.base (L2.CX X.prog X.w) k g fd ps sp) (hr : Room k X.A) (hb : Binds X.K fd ps []) (tk : Takes X Wx) (ha : PA X (e :: es) t)
    (hst : starEach (e :: es) X.env = (false, eval e X.env) :: starEach es X.env) (hpl : (backTo pos (starEach es X.env)).any (·.1) = false)
    (ht : eval (.Call (.Attribute o m apos) (e :: es) [] pos) X.env = (do
      let ov ← eval o X.env
      standAt apos.atName
      let (f, first) ← holding [ov] (getMethod ov m pl)
      callWith pos f first (backTo pos (starEach (e :: es) X.env)) (backToKw pos (keywordEach [] X.env)))) :
    PE X (.Call (.Attribute o m apos) (e :: es) [] pos) (fun σ H Q => ta σ H fun x H1 => ∃ a dx fs, x = .ref a ∧ H1 a = some (.ins A dx fs) ∧ fs.lookup m = none ∧ t σ H1 fun vs H2 => sp (x :: vs) H2 Q (fun cls d H' => Wx cls d σ H')) := by
  refine ⟨fun pins s σ H Q I h => ?_⟩
  refine PySem.W.methodCall_KW (pl := pl) (thn (ho.run pins s σ H _ I h) fun u s1 ⟨x, H1, I1, rx, a, dx, fs, ex, ea, l, q⟩ => ?_) ht
  subst ex
  obtain rfl : u = Value.ref a := rx
  refine getmeth_ok I1 ea c hm l ?_
  refine PySem.W.callWith_K (h₀ := X.base) (first := [.ref a]) I1.ok.mod.kin hm.kp (thn (ha.run pos pins s1 σ H1 _ I1 q) fun us s2 ⟨vs, H2, I2, r, q2⟩ => ⟨I2.kIn, ?_⟩) hst hpl
  exact run_fnS (us := .ref a :: us) (vs := .ref a :: vs) F hr hb tk I2 (.cons rfl r) q2
theorem pe_methS0 {X : Cx} {k : Nat} {g A : Addr} {fd : FuncData} {ps : List Str} {sp : Sp} {m : Str} {apos pos : Pos} {o : Expr} {ta : TE} {Wx : WX} {pl : Sem Bool} (ho : PE X o ta) (c : Cls X.K A) (hm : Meth X.K A m g) (F : FnOk X.prog X.w X.K X.mg X.base (L2.CX X.prog X.w) k g fd ps sp) (hr : Room k X.A) (hb : Binds X.K fd ps []) (tk : Takes X Wx)
    (ht : eval (.Call (.Attribute o m apos) [] [] pos) X.env = (do
      let ov ← eval o X.env
      standAt apos.atName
      let (f, first) ← holding [ov] (getMethod ov m pl)
      callWith pos f first (backTo pos (starEach [] X.env)) (backToKw pos (keywordEach [] X.env)))) :
    PE X (.Call (.Attribute o m apos) [] [] pos) (fun σ H Q => ta σ H fun x H1 => ∃ a dx fs, x = .ref a ∧ H1 a = some (.ins A dx fs) ∧ fs.lookup m = none ∧ sp [x] H1 Q (fun cls d H' => Wx cls d σ H')) := by
  refine ⟨fun pins s σ H Q I h => ?_⟩
  refine PySem.W.methodCall_KW (pl := pl) (thn (ho.run pins s σ H _ I h) fun u s1 ⟨x, H1, I1, rx, a, dx, fs, ex, ea, l, q⟩ => ?_) ht
  subst ex
  obtain rfl : u = Value.ref a := rx
  refine getmeth_ok I1 ea c hm l ?_
  exact PySem.W.callWith_K0 (first := [.ref a]) I1.kIn hm.kp (run_fnS (us := [.ref a]) (vs := [.ref a]) F hr hb tk I1 (.cons rfl .nil) q)
end RI

set_option maxHeartbeats 4000000
namespace RI
open PySem PySem.Spec PyProof.Rows L2
variable {T : Tb} {C : CC}
/-! ### {'a': x, 'b': y, ..} -/
def evP : List (List Nat × ME) → FT → EV → Mem → Res (List (D × D))
  | [] => fun _ _ M => .ok [] M
  | q :: ps => fun F r M => (q.2 F r M).noX.bind fun v M1 => (evP ps F r M1).bind fun l M2 => .ok ((.str q.1, v) :: l) M2
def keysOf (ps : List (List Nat × ME)) : List (List Nat) := ps.map (·.1)
def mDks (ps : List (List Nat × ME)) : ME := fun F r M => (evP ps F r M).bind fun l M1 => if (keysOf ps).Nodup ∧ D.bels M1.length (l.map (·.2)) = true then .ok (.obj M1.length) (M1 ++ [.dks false l]) else .bad
abbrev trP (X : Cx) (wx : Ex → L2.St → Wd → Prop) (F : FT) (q : List Nat × ME) : TE × TE := (rdE (kx X wx) F (mC (.str q.1)), rdE (kx X wx) F q.2)
def kvP (ks : List (List Nat)) (ys : List V) : List (V × V) := (ks.zip ys).map fun p => (V.str ⟨p.1.toArray⟩, p.2)
theorem pairs_of {X : Cx} {wx : Ex → L2.St → Wd → Prop} {F : FT} {s : L2.St} {r : EV} : ∀ (ps : List (List Nat × ME)) (W : Wd) (M : Mem) (l : List (D × D)) (M1 : Mem) (Q' : List (V × V) → Hp → Prop), evP ps F r M = .ok l M1 → MRel (kb X) W M → SRel (kb X) W s r →
    (∀ W3, Le W W3 → MRel (kb X) W3 M1 → ∀ ys, DRels (kb X) W3 (l.map (·.2)) ys → l.map (·.1) = (keysOf ps).map D.str → Q' (kvP (keysOf ps) ys) W3.H) → tPairs (ps.map (trP X wx F)) s W.H Q'
  | [], W, M, l, M1, Q', e, m, sr, h => by
    cases e
    exact h W (Le.refl _) m [] rfl rfl
  | q :: ps, W, M, l, M1, Q', e, m, sr, h => by
    unfold evP at e
    cases e1 : q.2 F r M with
    | bad => rw [e1] at e; cases e
    | exc _ _ => rw [e1] at e; cases e
    | ok v Ma =>
      rw [e1] at e
      simp only [Res.noX_ok, Res.bind_ok] at e
      cases e2 : evP ps F r Ma with
      | bad => rw [e2] at e; cases e
      | exc _ _ => rw [e2] at e; cases e
      | ok l' Mb =>
        rw [e2] at e
        simp only [Res.bind_ok] at e
        cases e
        refine ⟨W.mu, M, r, m, sr, ?_⟩
        intro Wk lk mk x dx
        cases (show x = _ from dx)
        refine ⟨Wk.mu, M, r, mk, sr.le lk, ?_⟩
        show Sat _ _ (q.2 F r M) _
        rw [e1]
        intro W2 l2 m2 y dy
        refine pairs_of ps W2 Ma l' _ _ e2 m2 ((sr.le lk).le l2) fun W3 l3 m3 ys dys ek => ?_
        refine h W3 ((lk.trans l2).trans l3) m3 (y :: ys) ⟨y, ys, rfl, DRel.le l3 v y dy, dys⟩ ?_
        simp only [List.map_cons, keysOf] at ek ⊢
        rw [ek]
inductive OkP (T : Tb) (C : CC) : List (Option Expr) → List Expr → List (List Nat × ME) → Prop where
  | nil : OkP T C [] [] []
  | cons {x : Str} {j : Nat} {p : Pos} {v : Expr} {m : ME} {ks : List (Option Expr)} {vs : List Expr} {ps : List (List Nat × ME)} (h : OkE T C v m) (r : OkP T C ks vs ps) : OkP T C (some (.Constant (.str x) j p) :: ks) (v :: vs) ((x.cps.toList, m) :: ps)
theorem OkP.pps {ks : List (Option Expr)} {vs : List Expr} {ps : List (List Nat × ME)} (h : OkP T C ks vs ps) {n : Nat} {X : Cx} {wx : Ex → L2.St → Wd → Prop} (q : CxOk T n C X wx) {pos : Pos} : PPs X pos ks vs (ps.map (trP X wx (callF T n))) := by
  induction h with
  | nil => exact pps_nil
  | cons h _ ih => exact pps_cons (ok_str n X wx q) (h n X wx q) ih
theorem OkP.facts {ks : List (Option Expr)} {vs : List Expr} {ps : List (List Nat × ME)} (h : OkP T C ks vs ps) : ks.all (·.isSome) = true ∧ ks.length = vs.length ∧ ks.length = ps.length := by
  induction h with
  | nil => exact ⟨rfl, rfl, rfl⟩
  | cons _ _ ih => exact ⟨by simp [ih.1], by simp [ih.2.1], by simp [ih.2.2]⟩
def kK (k : List Nat) : Key := .inr ⟨k.toArray⟩
theorem put_new (kvs : List (Key × V)) (k : Key) (v : V) (h : k ∉ kvs.map (·.1)) : putK kvs k v = kvs ++ [(k, v)] := by
  unfold putK
  rw [if_neg]
  intro z
  obtain ⟨q, hq, e⟩ := List.any_eq_true.mp z
  exact h (List.mem_map.mpr ⟨q, hq, of_decide_eq_true e⟩)
theorem merge_new : ∀ (more kvs : List (Key × V)), ((kvs ++ more).map (·.1)).Nodup → mergeK kvs more = kvs ++ more
  | [], kvs, _ => by simp [mergeK]
  | p :: r, kvs, h => by
    have e := put_new kvs p.1 p.2 (by
      intro z
      rw [List.map_append, List.nodup_append] at h
      exact h.2.2 _ z _ (by simp) rfl)
    show mergeK (putK kvs p.1 p.2) r = _
    rw [e, merge_new r (kvs ++ [(p.1, p.2)]) (by simpa using h)]
    simp
theorem ksr_of {K : Kb} {W : Wd} {i : Nat} : ∀ (ks : List (List Nat)) (l : List (D × D)) (ys : List V), l.map (·.1) = ks.map D.str → DRels K W (l.map (·.2)) ys → D.bels i (l.map (·.2)) = true → Paired (KSR K W i) l ((ks.zip ys).map fun p => (kK p.1, p.2))
  | [], [], _, _, h, _ => by cases h; exact .nil
  | [], _ :: _, _, e, _, _ => by cases e
  | _ :: _, [], _, e, _, _ => by cases e
  | k :: ks, q :: l, ys, e, h, b => by
    simp only [List.map_cons, DRels, D.bels, Bool.and_eq_true, List.cons.injEq] at e h b
    obtain ⟨y, ys', rfl, h1, h2⟩ := h
    refine .cons ⟨?_, h1, b.1⟩ (ksr_of ks l ys' e.2 h2 b.2)
    rw [e.1]; rfl
theorem zip_fst : ∀ (ks : List (List Nat)) (ys : List V), ks.length = ys.length → ((ks.zip ys).map fun p => (kK p.1, p.2)).map (·.1) = ks.map kK
  | [], [], _ => rfl
  | [], _ :: _, h => by cases h
  | _ :: _, [], h => by cases h
  | k :: ks, y :: ys, h => by simp only [List.zip_cons_cons, List.map_cons, zip_fst ks ys (by simpa using h)]
theorem kK_inj {a b : List Nat} (h : kK a = kK b) : a = b := by
  simp only [kK, Sum.inr.injEq, Str.mk.injEq] at h
  simpa using h
theorem evP_ok {F : FT} : ∀ (ps : List (List Nat × ME)) (r : EV) (M : Mem) (x : Ex) (M1 : Mem), evP ps F r M ≠ .exc x M1
  | [], r, M, x, M1, h => by cases h
  | q :: ps, r, M, x, M1, h => by
    unfold evP at h
    cases e1 : q.2 F r M with
    | bad => rw [e1] at h; cases h
    | exc _ _ => rw [e1] at h; cases h
    | ok v Ma =>
      rw [e1] at h
      simp only [Res.noX_ok, Res.bind_ok] at h
      cases e2 : evP ps F r Ma with
      | bad => rw [e2] at h; cases h
      | exc y Mb => exact evP_ok ps r Ma y Mb e2
      | ok l Mb => rw [e2] at h; cases h
theorem ok_dks {ks : List (Option Expr)} {vs : List Expr} {ps : List (List Nat × ME)} {pos : Pos} (hne : ks ≠ []) (h15 : ps.length ≤ 15) (hp : OkP T C ks vs ps) : OkE T C (.Dict ks vs pos) (mDks ps) := by
  intro n X wx h
  obtain ⟨f1, f2, f3⟩ := hp.facts
  · refine PE.of (pe_disp (hp.pps h) f1 f2 hne (by omega)) fun s H Q q => ?_
    obtain ⟨mu, M, r, mr, sr, sat⟩ := q
    intro p hpn
    obtain ⟨lk1, m1⟩ := priv_in mr hpn (.dK [])
    unfold mDks at sat
    cases ev : evP ps (callF T n) r M with
    | bad => rw [ev] at sat; exact sat.elim
    | exc x M1 => exact absurd ev (evP_ok ps r M x M1)
    | ok l M1 =>
      rw [ev] at sat
      simp only [Res.bind_ok] at sat
      obtain ⟨⟨nd, hb⟩, sat⟩ := sat_ite sat
      refine pairs_of ps _ M l M1 _ ev m1 (sr.lk lk1) fun W3 l3 m3 ys dys ek => ?_
      have e3 : W3.H p = some (.dK []) := by rw [l3.pvk p List.mem_cons_self]; exact upd_same
      have hlen : (keysOf ps).length = ys.length := by
        have a := dys.length
        have b := congrArg List.length ek
        simp only [List.length_map] at a b
        omega
      have pr := ksr_of (K := kb X) (W := W3) (i := M1.length) (keysOf ps) l ys ek dys hb
      have mg := merge_new ((keysOf ps).zip ys |>.map fun p => (kK p.1, p.2)) [] (by
        rw [List.nil_append, zip_fst _ _ hlen]
        show List.Pairwise _ _
        rw [List.pairwise_map]
        exact List.Pairwise.imp (fun hne e => hne (kK_inj e)) nd)
      refine ⟨e3, (keysOf ps).zip ys |>.map fun p => (kK p.1, p.2), ?_, ?_, ?_⟩
      · simp only [kvP, List.map_map]
        rfl
      · simp only [List.length_map, List.length_zip, keysOf]
        omega
      · rw [mg, List.nil_append]
        obtain ⟨l4, m4⟩ := priv_out mr hpn l3 m3 (.dK ((keysOf ps).zip ys |>.map fun p => (kK p.1, p.2))) (.dks false l) fun W' lk e ek' => ⟨_, ⟨ek', e⟩, Paired.mapP pr fun _ _ q => q.lk lk⟩
        refine sat _ l4 m4 (.ref p) ?_
        simp only [DRel]
        refine ⟨p, rfl, ?_⟩
        show (W3.mu.l ++ [p])[M1.length]? = some p
        rw [← m3.len, List.getElem?_append_right (Nat.le_refl _)]
        simp
end RI

set_option maxHeartbeats 4000000
namespace RI
open PySem PySem.Spec PyProof.Rows L2
variable {T : Tb} {C : CC}
/-! ### a list that is being made, seen by none -/
structure Acc (K : Kb) (W1 : Wd) (Dl : Addr) (W : Wd) (M : Mem) (acc : List D) (xs : List V) : Prop where
  m : MRel K W M
  lk : Lk W1 W
  p : W.mu.p = Dl :: W1.mu.p
  pv : ∀ a, a ∈ W1.mu.p → W.H a = W1.H a
  at_ : W.H Dl = some (.lst xs)
  dr : DRels K W acc xs
variable {K : Kb} {W1 W W' : Wd} {Dl : Addr} {M M' : Mem} {acc : List D} {xs : List V}
theorem Acc.start (m1 : MRel K W1 M) (hD : W1.H Dl = none) : Acc K W1 Dl ⟨upd W1.H Dl (.lst []), ⟨W1.mu.l, Dl :: W1.mu.p, W1.mu.k⟩⟩ M [] [] := by
  obtain ⟨lk, m⟩ := priv_in m1 hD (.lst [])
  refine ⟨m, lk, rfl, fun a ha => ?_, upd_same, rfl⟩
  obtain ⟨⟨u, e⟩, q⟩ := m1.pv a ha
  show upd W1.H Dl (.lst []) a = _
  rw [upd_ne (ne_of_none e hD)]
theorem Acc.go (h : Acc K W1 Dl W M acc xs) (l : Le W W') (m' : MRel K W' M') : Acc K W1 Dl W' M' acc xs := by
  refine ⟨m', h.lk.trans l.toLk, l.pv.trans h.p, fun a ha => ?_, ?_, DRels.le l acc xs h.dr⟩
  · rw [l.pvk a (by rw [h.p]; exact List.mem_cons_of_mem _ ha)]; exact h.pv a ha
  · rw [l.pvk Dl (by rw [h.p]; exact List.mem_cons_self)]; exact h.at_
theorem Acc.push (h : Acc K W1 Dl W M acc xs) (fz : Dl ∉ W1.mu.p) {yd : D} {yv : V} (dy : DRel K W yd yv) : Acc K W1 Dl ⟨upd W.H Dl (.lst (xs ++ [yv])), W.mu⟩ M (acc ++ [yd]) (xs ++ [yv]) := by
  have hDp : Dl ∈ W.mu.p := by rw [h.p]; exact List.mem_cons_self
  have nDl : Dl ∉ W.mu.l := (h.m.pv Dl hDp).2
  have lk7 : Lk W ⟨upd W.H Dl (.lst (xs ++ [yv])), W.mu⟩ := ⟨⟨[], by simp⟩, fun a o hh nf => ⟨by
    show upd W.H Dl _ a = _
    rw [upd_ne (by rintro rfl; exact nf.2 hDp)]; exact hh, nf⟩⟩
  refine ⟨h.m.lk lk7 rfl rfl (fun a ha => upd_ne (by rintro rfl; exact nDl ha)) (fun a ha => ?_), h.lk.trans lk7, h.p, fun a ha => ?_, upd_same, DRels.lk lk7 _ _ (DRels.append h.dr (show DRels K W [yd] [yv] from ⟨yv, [], rfl, dy, rfl⟩))⟩
  · by_cases ea : a = Dl
    · subst ea
      exact ⟨⟨_, upd_same⟩, nDl⟩
    · obtain ⟨⟨u, e⟩, q⟩ := h.m.pv a ha
      exact ⟨⟨u, by show upd W.H Dl _ a = _; rw [upd_ne ea]; exact e⟩, q⟩
  · have ea : a ≠ Dl := by rintro rfl; exact fz ha
    show upd W.H Dl _ a = _
    rw [upd_ne ea]; exact h.pv a ha
theorem Acc.done (h : Acc K W1 Dl W M acc xs) (fz : Dl ∉ W1.mu.p) : Le W1 ⟨W.H, ⟨W.mu.l, W1.mu.p, W.mu.k⟩⟩ ∧ MRel K ⟨W.H, ⟨W.mu.l, W1.mu.p, W.mu.k⟩⟩ M ∧ DRel K ⟨W.H, ⟨W.mu.l, W1.mu.p, W.mu.k⟩⟩ (.lst acc) (.ref Dl) := by
  have nDl : Dl ∉ W.mu.l := (h.m.pv Dl (by rw [h.p]; exact List.mem_cons_self)).2
  have lk3 : Lk W ⟨W.H, ⟨W.mu.l, W1.mu.p, W.mu.k⟩⟩ := ⟨⟨[], by simp⟩, fun a o hh nf => ⟨hh, nf.1, fun z => nf.2 (by rw [h.p]; exact List.mem_cons_of_mem _ z)⟩⟩
  refine ⟨⟨h.lk.trans lk3, rfl, fun a ha => h.pv a ha⟩, h.m.lk lk3 rfl rfl (fun _ _ => rfl) fun a ha => h.m.pv a (by rw [h.p]; exact List.mem_cons_of_mem _ ha), ?_⟩
  simp only [DRel]
  exact ⟨Dl, xs, rfl, .inl ⟨.inl h.at_, .inl nDl, fz⟩, DRels.lk lk3 acc xs h.dr⟩
/-! ### two clauses -/
def lcG2 (gd : Gd) (g : MG) (mt : MT) (mi1 : MI) (g1 : MG) (mt1 : MT) (me : ME) (vs1 : List Nat) (F : FT) (r : EV) : List D → Nat → Mem → Res (List D)
  | [], _, M => if Gd.ok gd M = true then .ok [] M else .bad
  | d :: ds, n, M => if Gd.ok gd M = true then (g F d r M).bind fun r1 M1 => (mt F r1 M1).bind fun k M2 =>
    if k then (mi1 F r1 M2).bind fun p M3 => if n + p.1.length ≤ LIM then (lcG p.2 g1 mt1 me F (wipeE r1 vs1) p.1 M3).bind fun ys M4 => (lcG2 gd g mt mi1 g1 mt1 me vs1 F r ds (n + ys.length) M4).bind fun zs M5 => .ok (ys ++ zs) M5 else .bad
    else lcG2 gd g mt mi1 g1 mt1 me vs1 F r ds n M2 else .bad
def mLc2 (mi : MI) (g : MG) (mt : MT) (mi1 : MI) (g1 : MG) (mt1 : MT) (me : ME) (vs vs1 : List Nat) : ME := fun F r M => (mi F r M).bind fun p M1 => (lcG2 p.2 g mt mi1 g1 mt1 me vs1 F (wipeE r vs) p.1 0 M1).noX.bind fun ys M2 => .ok (.lst ys) M2
theorem tLc2_of {K : Kx} {F : FT} {mi mi1 : MI} {g g1 : MG} {mt mt1 : MT} {me : ME} {vs vs1 : List Nat} {s : L2.St} {H : Hp} {Q : VK} (q : rdE K F (mLc2 mi g mt mi1 g1 mt1 me vs vs1) s H Q) :
    tLc2 (rdI K F mi) (rdGc K.b.no F vs g) (rdT K.b.no F mt) (rdI K.b.no F mi1) (rdGc K.b.no F vs1 g1) (rdT K.b.no F mt1) (rdE K.b.no F me) vs vs1 s H Q := by
  obtain ⟨mu, M, r, mr, sr, sat⟩ := q
  refine ⟨mu, M, r, mr, sr, sat.bind.imp fun p M1 W1 l1 m1 s1 J wk Dl hD => ?_⟩
  obtain ⟨ds, gd⟩ := p
  have fz := (m1.fresh hD).2
  have sr1 : SRel K W1 s r := sr.le l1
  refine ⟨fun i m H2 => m = ds.length - i ∧ i ≤ ds.length ∧ ∃ mu2 M2 acc xs, Acc K W1 Dl ⟨H2, mu2⟩ M2 acc xs ∧ Sat (K.at s) W1 ((lcG2 gd g mt mi1 g1 mt1 me vs1 F (wipeE r vs) (ds.drop i) acc.length M2).noX.bind fun ys M3 => .ok (.lst (acc ++ ys)) M3) (PV K Q), ⟨ds.length, rfl, Nat.zero_le _, _, M1, [], [], Acc.start m1 hD, by simpa using s1⟩, ?_⟩
  rintro i m H2 ⟨rfl, hle, mu2, M2, acc, xs, A, sat2⟩
  by_cases hlt : i < ds.length
  · right
    rw [drop_cons hlt] at sat2
    simp only [lcG2] at sat2
    by_cases hgd : Gd.ok gd M2 = true
    case neg => rw [if_neg hgd] at sat2; exact sat2.elim
    rw [if_pos hgd] at sat2
    refine ⟨wk.go i _ _ A.lk A.m hgd hlt, fun H' => ∃ mu2 M2 acc xs, Acc K W1 Dl ⟨H', mu2⟩ M2 acc xs ∧ Sat (K.at s) W1 ((lcG2 gd g mt mi1 g1 mt1 me vs1 F (wipeE r vs) (ds.drop (i + 1)) acc.length M2).noX.bind fun ys M3 => .ok (.lst (acc ++ ys)) M3) (PV K Q), fun H' h => ⟨ds.length - (i + 1), by omega, rfl, hlt, h⟩, fun x H' y => ?_⟩
    obtain ⟨W3, rfl, le3, mr3, dx⟩ := wk.yld i ds[i] _ M2 x H' (List.getElem?_eq_getElem hlt) A.lk A.m hgd y
    have A3 := A.go le3 mr3
    have srw : SRel K W3 (wipe s vs) (wipeE r vs) := (sr1.wipe vs).lk A3.lk
    refine ⟨W3.mu, M2, wipeE r vs, mr3, srw, ds[i], dx, ?_⟩
    cases e1 : g F ds[i] (wipeE r vs) M2 with
    | bad => rw [e1] at sat2; exact sat2.elim
    | exc _ _ => rw [e1] at sat2; exact sat2.elim
    | ok r4 M4 =>
      rw [e1] at sat2
      simp only [Res.bind_ok] at sat2
      intro W4 l4 m4 s4 sr4 es4
      have A4 := A3.go l4 m4
      refine ⟨es4.trans (wipe_wipe s vs), W4.mu, M4, r4, m4, sr4, ?_⟩
      cases e2 : mt F r4 M4 with
      | bad => rw [e2] at sat2; exact sat2.elim
      | exc _ _ => rw [e2] at sat2; exact sat2.elim
      | ok k M5 =>
        rw [e2] at sat2
        simp only [Res.bind_ok] at sat2
        show Sat (K.b.no.at s4) W4 (mt F r4 M4) _
        rw [e2]
        intro W5 l5 m5
        have A5 := A4.go l5 m5
        cases k with
        | false =>
          refine iteF ?_
          simp only [Bool.false_eq_true, if_false] at sat2
          exact ⟨W5.mu, M5, acc, xs, A5, sat2⟩
        | true =>
          simp only [if_true] at sat2
          refine iteT ⟨W5.mu, M5, r4, m5, sr4.le l5, ?_⟩
          cases e3 : mi1 F r4 M5 with
          | bad => rw [e3] at sat2; exact sat2.elim
          | exc _ _ => rw [e3] at sat2; exact sat2.elim
          | ok p1 M6 =>
            rw [e3] at sat2
            simp only [Res.bind_ok] at sat2
            show Sat (K.b.no.at s4) W5 (mi1 F r4 M5) _
            rw [e3]
            intro W6 l6 m6 J1 wk1
            obtain ⟨ds1, gd1⟩ := p1
            have A6 := A5.go l6 m6
            by_cases hlim : acc.length + ds1.length ≤ LIM
            case neg => rw [if_neg hlim] at sat2; exact sat2.elim
            rw [if_pos hlim] at sat2
            refine ⟨fun j k H => k = ds1.length - j ∧ j ≤ ds1.length ∧ ∃ mu7 M7 acc7 xs7, Acc K W1 Dl ⟨H, mu7⟩ M7 acc7 xs7 ∧ Lk W6 ⟨H, mu7⟩ ∧ acc7.length ≤ acc.length + j ∧ Sat (K.at s) W1 (((lcG gd1 g1 mt1 me F (wipeE r4 vs1) (ds1.drop j) M7).bind fun ys M8 => (lcG2 gd g mt mi1 g1 mt1 me vs1 F (wipeE r vs) (ds.drop (i + 1)) (acc7.length + ys.length) M8).bind fun zs M9 => .ok (ys ++ zs) M9).noX.bind fun ys M3 => .ok (.lst (acc7 ++ ys)) M3) (PV K Q), ⟨ds1.length, rfl, Nat.zero_le _, W6.mu, M6, acc, xs, A6, (Le.refl W6).toLk, Nat.le_refl _, by rw [List.drop_zero]; exact sat2⟩, ?_⟩
            rintro j k H7 ⟨rfl, hle1, mu7, M7, acc7, xs7, A7, lk7, hac, sat3⟩
            by_cases hlt1 : j < ds1.length
            · right
              rw [drop_cons hlt1] at sat3
              simp only [lcG] at sat3
              by_cases hgd1 : Gd.ok gd1 M7 = true
              case neg => rw [if_neg hgd1] at sat3; exact sat3.elim
              rw [if_pos hgd1] at sat3
              refine ⟨wk1.go j _ _ lk7 A7.m hgd1 hlt1, fun H => ∃ mu8 M8 acc8 xs8, Acc K W1 Dl ⟨H, mu8⟩ M8 acc8 xs8 ∧ Lk W6 ⟨H, mu8⟩ ∧ acc8.length ≤ acc.length + (j + 1) ∧ Sat (K.at s) W1 (((lcG gd1 g1 mt1 me F (wipeE r4 vs1) (ds1.drop (j + 1)) M8).bind fun ys M8 => (lcG2 gd g mt mi1 g1 mt1 me vs1 F (wipeE r vs) (ds.drop (i + 1)) (acc8.length + ys.length) M8).bind fun zs M9 => .ok (ys ++ zs) M9).noX.bind fun ys M3 => .ok (.lst (acc8 ++ ys)) M3) (PV K Q), fun H' h => ⟨ds1.length - (j + 1), by omega, rfl, hlt1, h⟩, fun x H' y => ?_⟩
              obtain ⟨W8, rfl, le8, mr8, dx8⟩ := wk1.yld j ds1[j] _ M7 x H' (List.getElem?_eq_getElem hlt1) lk7 A7.m hgd1 y
              have A8 := A7.go le8 mr8
              have lk8 := lk7.trans le8.toLk
              have srw1 : SRel K W8 (wipe s4 vs1) (wipeE r4 vs1) := (sr4.wipe vs1).lk ((l5.toLk.trans l6.toLk).trans lk8)
              refine ⟨W8.mu, M7, wipeE r4 vs1, mr8, srw1, ds1[j], dx8, ?_⟩
              cases f1 : g1 F ds1[j] (wipeE r4 vs1) M7 with
              | bad => rw [f1] at sat3; exact sat3.elim
              | exc _ _ => rw [f1] at sat3; exact sat3.elim
              | ok r9 M9 =>
                rw [f1] at sat3
                simp only [Res.bind_ok] at sat3
                intro W9 l9 m9 s9 sr9 es9
                have A9 := A8.go l9 m9
                refine ⟨es9.trans (wipe_wipe s4 vs1), W9.mu, M9, r9, m9, sr9, ?_⟩
                cases f2 : mt1 F r9 M9 with
                | bad => rw [f2] at sat3; exact sat3.elim
                | exc _ _ => rw [f2] at sat3; exact sat3.elim
                | ok k Ma =>
                  rw [f2] at sat3
                  simp only [Res.bind_ok] at sat3
                  show Sat (K.b.no.at s9) W9 (mt1 F r9 M9) _
                  rw [f2]
                  intro Wa la ma
                  have Aa := A9.go la ma
                  cases k with
                  | false =>
                    refine iteF ?_
                    simp only [Bool.false_eq_true, if_false] at sat3
                    exact ⟨Wa.mu, Ma, acc7, xs7, Aa, (lk8.trans l9.toLk).trans la.toLk, by omega, sat3⟩
                  | true =>
                    simp only [if_true] at sat3
                    refine iteT ⟨Wa.mu, Ma, r9, ma, sr9.le la, ?_⟩
                    cases f3 : me F r9 Ma with
                    | bad => rw [f3] at sat3; exact sat3.elim
                    | exc _ _ => rw [f3] at sat3; exact sat3.elim
                    | ok yd Mb =>
                      rw [f3] at sat3
                      simp only [Res.bind_ok] at sat3
                      show Sat (K.b.no.at s9) Wa (me F r9 Ma) _
                      rw [f3]
                      intro Wb lb mb yv dy
                      have Ab := Aa.go lb mb
                      have hDp : Dl ∈ Wb.mu.p := by rw [Ab.p]; exact List.mem_cons_self
                      refine ⟨xs7, Ab.at_, by rw [← Ab.dr.length, ← lim_eq]; have : acc.length + ds1.length ≤ LIM := hlim; omega, Wb.mu, Mb, acc7 ++ [yd], xs7 ++ [yv], Ab.push fz dy, ?_, by simp; omega, ?_⟩
                      · refine (((lk8.trans l9.toLk).trans la.toLk).trans lb.toLk).trans ⟨⟨[], by simp⟩, fun a o hh nf => ⟨?_, nf⟩⟩
                        show upd Wb.H Dl _ a = _
                        rw [upd_ne (by rintro rfl; exact nf.2 hDp)]; exact hh
                      · refine Sat.eq sat3 ?_
                        cases lcG gd1 g1 mt1 me F (wipeE r4 vs1) (ds1.drop (j + 1)) Mb with
                        | ok ys Mc =>
                          simp only [Res.bind_ok, List.length_cons, List.length_append, List.length_nil]
                          rw [show acc7.length + (ys.length + 1) = acc7.length + (0 + 1) + ys.length by omega]
                          cases lcG2 gd g mt mi1 g1 mt1 me vs1 F (wipeE r vs) (ds.drop (i + 1)) (acc7.length + (0 + 1) + ys.length) Mc with
                          | ok zs Md => simp [Res.bind, Res.noX]
                          | exc _ _ => rfl
                          | bad => rfl
                        | exc _ _ => rfl
                        | bad => rfl
            · left
              have e : j = ds1.length := by omega
              subst e
              rw [List.drop_length] at sat3
              simp only [lcG] at sat3
              by_cases hgd1 : Gd.ok gd1 M7 = true
              case neg => rw [if_neg hgd1] at sat3; exact sat3.elim
              rw [if_pos hgd1] at sat3
              refine ⟨wk1.stop _ _ lk7 A7.m hgd1, mu7, M7, acc7, xs7, A7, ?_⟩
              simp only [Res.bind_ok, List.length_nil, Nat.add_zero, List.nil_append] at sat3
              refine Sat.eq sat3 ?_
              cases lcG2 gd g mt mi1 g1 mt1 me vs1 F (wipeE r vs) (ds.drop (i + 1)) acc7.length M7 <;> rfl
  · left
    have e : i = ds.length := by omega
    subst e
    rw [List.drop_length] at sat2
    simp only [lcG2] at sat2
    by_cases hgd : Gd.ok gd M2 = true
    case neg => rw [if_neg hgd] at sat2; exact sat2.elim
    rw [if_pos hgd] at sat2
    refine ⟨wk.stop _ _ A.lk A.m hgd, ?_⟩
    simp only [Res.noX_ok, Res.bind_ok, List.append_nil] at sat2
    obtain ⟨a1, a2, a3⟩ := A.done fz
    exact sat2 _ a1 a2 (.ref Dl) a3
theorem ok_lc2 (hq : C.calm = true) {elt tg iter tg1 iter1 : Expr} {ifs ifs1 : List Expr} {scope : Scope} {own : List (Str × Nat)} {pos : Pos} {mi mi1 : MI} {g g1 : MG} {mt mt1 : MT} {me : ME} {vs vs1 : List Nat} (hv : own.map (·.2) = vs) (hv1 : ∀ i ∈ vs1, i ∈ vs) (hs : noSet iter = true) (hs1 : noSet iter1 = true) (ok : blkC C.N C.sc scope own = true) (hi : OkI T C tg iter mi)
    (hg : OkGc T (C.blk scope) vs tg g) (ht : OkTs T (C.blk scope) ifs mt) (hi1 : OkI T (C.blk scope) tg1 iter1 mi1) (hg1 : OkGc T (C.blk scope) vs1 tg1 g1) (ht1 : OkTs T (C.blk scope) ifs1 mt1) (he : OkE T (C.blk scope) elt me) : OkE T C (.ListComp elt [⟨tg, iter, ifs, 0⟩, ⟨tg1, iter1, ifs1, 0⟩] scope pos) (mLc2 mi g mt mi1 g1 mt1 me vs vs1) := by
  intro n X wx h
  have bo : BlkOk X.N X.env.scope scope own := by rw [h.N, h.sc]; exact blkOk_by ok
  subst hv
  have cx := fun (s : Shared) (H : Hp) (Ca : Addr) (cl : List (Str × Addr)) (fp : List Addr) => h.blk hq bo.kind s H Ca cl fp
  refine PE.of (pe_lc2 (g := rdGc (kb X).no (callF T n) (own.map (·.2)) g) (tt := rdT (kb X).no (callF T n) mt) (wi1 := rdI (kb X).no (callF T n) mi1) (g1 := rdGc (kb X).no (callF T n) vs1 g1) (tt1 := rdT (kb X).no (callF T n) mt1) (te := rdE (kb X).no (callF T n) me) (h.calm.trans hq) h.nd (hi n X wx h) bo hv1
    (fun s H Ca cl fp => by rw [← kx_blk h hq s H scope (compEnvC scope cl Ca X.env) fp]; exact hg n _ _ (cx s H Ca cl fp)) (fun s H Ca cl fp => by rw [← kx_blk h hq s H scope (compEnvC scope cl Ca X.env) fp]; exact ht n _ _ (cx s H Ca cl fp))
    (fun s H Ca cl fp => by rw [← kx_blk h hq s H scope (compEnvC scope cl Ca X.env) fp]; exact hi1 n _ _ (cx s H Ca cl fp)) (fun s H Ca cl fp => by rw [← kx_blk h hq s H scope (compEnvC scope cl Ca X.env) fp]; exact hg1 n _ _ (cx s H Ca cl fp))
    (fun s H Ca cl fp => by rw [← kx_blk h hq s H scope (compEnvC scope cl Ca X.env) fp]; exact ht1 n _ _ (cx s H Ca cl fp)) (fun s H Ca cl fp => by rw [← kx_blk h hq s H scope (compEnvC scope cl Ca X.env) fp]; exact he n _ _ (cx s H Ca cl fp)) (noSet_it hs) (fun env => noSet_it hs1)) fun s H Q q => tLc2_of q
end RI

set_option maxHeartbeats 4000000
namespace RI
open PySem PySem.Spec PyProof.Rows L2 RZ
variable {T : Tb} {C : CC}
/-! ### dicts being made, their objects not yet counted -/
def KS0 (K : Kb) (W : Wd) (p : D × D) (x : Key × V) : Prop := D.key1 p.1 = some x.1 ∧ DRel K W p.2 x.2
theorem KS0.lk {K : Kb} {W W' : Wd} (l : Lk W W') {p : D × D} {x : Key × V} (h : KS0 K W p x) : KS0 K W' p x := ⟨h.1, DRel.lk l _ _ h.2⟩
theorem ksr_ks0 {K : Kb} {W : Wd} {i : Nat} {l : List (D × D)} {kvs : List (Key × V)} (h : Paired (KS0 K W) l kvs) (b : D.bels i (l.map (·.2)) = true) : Paired (KSR K W i) l kvs := by
  induction h with
  | nil => exact .nil
  | cons r t ih =>
    simp only [List.map_cons, D.bels, Bool.and_eq_true] at b
    exact .cons ⟨r.1, r.2, b.1⟩ (ih b.2)
theorem dk0any {K : Kb} {W : Wd} (k : Key) {l : List (D × D)} {kvs : List (Key × V)} (h : Paired (KS0 K W) l kvs) : (l.any fun p => decide (D.key1 p.1 = some k)) = kvs.any fun kv => decide (kv.1 = k) := by
  induction h with
  | nil => rfl
  | cons r t ih => simp only [List.any_cons, ih, r.1, Option.some.injEq]
theorem dk0set {K : Kb} {W : Wd} {kd v : D} {vv : V} {k : Key} (hk : D.key1 kd = some k) (hv : DRel K W v vv) {l : List (D × D)} {kvs : List (Key × V)} (h : Paired (KS0 K W) l kvs) : Paired (KS0 K W) (dkset k kd v l) (putK kvs k vv) := by
  unfold dkset putK
  rw [dk0any k h]
  split
  · rename_i hany
    clear hany
    induction h with
    | nil => exact .nil
    | @cons p x l kvs r t ih =>
      refine .cons ?_ ih
      show KS0 K W (if D.key1 p.1 = some k then (p.1, v) else p) (if x.1 = k then (x.1, vv) else x)
      by_cases e : x.1 = k
      · rw [if_pos (by rw [r.1, e]), if_pos e]
        exact ⟨r.1, hv⟩
      · rw [if_neg (by rw [r.1]; simpa using e), if_neg e]
        exact r
  · exact paired_app h (.cons ⟨hk, hv⟩ .nil)
/-! ### dict(zip(a, b)) -/
def mergeD : List (D × D) → List D → List D → Option (List (D × D))
  | acc, k :: ks, v :: vs => (match D.key1 k with
    | some kk => mergeD (dkset kk k v acc) ks vs
    | none => none)
  | acc, _, _ => some acc
theorem mergeD_rel {K : Kb} {W : Wd} : ∀ (ks vs : List D) (acc l : List (D × D)) (xs ys : List V) (kvs : List (Key × V)), mergeD acc ks vs = some l → DRels K W ks xs → DRels K W vs ys → Paired (KS0 K W) acc kvs →
    ∃ more : List (Key × V), more.length = min xs.length ys.length ∧ (∀ (i : Nat) (k : Key) (v : V), more[i]? = some (k, v) → xs[i]? = some (kV k) ∧ ys[i]? = some v) ∧ Paired (KS0 K W) l (mergeK kvs more)
  | [], vs, acc, l, xs, ys, kvs, e, r1, r2, p => by
    cases (show xs = [] from r1)
    simp only [mergeD, Option.some.injEq] at e
    subst e
    exact ⟨[], by simp, fun i k v h => by simp at h, p⟩
  | k :: ks, [], acc, l, xs, ys, kvs, e, r1, r2, p => by
    cases (show ys = [] from r2)
    simp only [mergeD, Option.some.injEq] at e
    subst e
    exact ⟨[], by simp, fun i k v h => by simp at h, p⟩
  | k :: ks, v :: vs, acc, l, xs, ys, kvs, e, r1, r2, p => by
    obtain ⟨x, xs', rfl, dx, r1'⟩ := r1
    obtain ⟨y, ys', rfl, dy, r2'⟩ := r2
    simp only [mergeD] at e
    split at e
    · rename_i kk ek
      obtain ⟨more, h1, h2, h3⟩ := mergeD_rel ks vs _ l xs' ys' (putK kvs kk y) e r1' r2' (dk0set ek dy p)
      have hx := key1_kV ek dx
      subst hx
      refine ⟨(kk, y) :: more, by simp [h1, Nat.succ_min_succ], fun i k' v' h => ?_, h3⟩
      cases i with
      | zero => simp at h; obtain ⟨rfl, rfl⟩ := h; exact ⟨rfl, rfl⟩
      | succ i => simpa using h2 i k' v' (by simpa using h)
    · cases e
def mDz (ms : MA) : ME := fun F r M => (ms F r M).bind fun ds M1 => match ds with
  | [.tup a, .tup b] => (match mergeD [] a b with
    | some l => if (D.bels M1.length (l.map (·.2)) && Nat.ble (l.length) 16777216) = true then .ok (.obj M1.length) (M1 ++ [.dks false l]) else .bad
    | none => .bad)
  | _ => .bad
def tDz (K : PySem.W.Frag) (t : TA) : TE := fun σ H Q => t σ H fun vs H1 => ∃ a b xs ys more, vs = [.ref a, .ref b] ∧ SqT K H1 a xs ∧ SqT K H1 b ys ∧ more.length = min xs.length ys.length ∧ (∀ (i : Nat) (k : Key) (v : V), more[i]? = some (k, v) → xs[i]? = some (kV k) ∧ ys[i]? = some v) ∧ (mergeK [] more).length ≤ sizeLine ∧ ∀ p, H1 p = none → Q (.ref p) (upd H1 p (.dK (mergeK [] more)))
theorem more_vals {xs ys : List V} {us vs : List Value} {more : List (Key × V)} (r1 : Vals xs us) (r2 : Vals ys vs) (hl : more.length = min xs.length ys.length) (hm : ∀ (i : Nat) (k : Key) (v : V), more[i]? = some (k, v) → xs[i]? = some (kV k) ∧ ys[i]? = some v) :
    ∃ prs : List (Key × Value), KV more prs ∧ prs.length = min us.length vs.length ∧ ∀ (i : Nat) (x y : Value), us[i]? = some x → vs[i]? = some y → ∃ k, prs[i]? = some (k, y) ∧ RelV (kV k) x := by
  induction more generalizing xs ys us vs with
  | nil =>
    refine ⟨[], .nil, by rw [← r1.length, ← r2.length, ← hl]; rfl, fun i x y h1 h2 => ?_⟩
    exfalso
    have : i < us.length := by
      by_cases q : i < us.length
      · exact q
      · rw [List.getElem?_eq_none (by omega)] at h1; cases h1
    have : i < vs.length := by
      by_cases q : i < vs.length
      · exact q
      · rw [List.getElem?_eq_none (by omega)] at h2; cases h2
    rw [← r1.length] at *
    rw [← r2.length] at *
    simp at hl
    omega
  | cons p more ih =>
    obtain ⟨k, v⟩ := p
    obtain ⟨e1, e2⟩ := hm 0 k v rfl
    cases r1 with
    | nil => simp at e1
    | @cons x u xs us q1 r1 =>
      cases r2 with
      | nil => simp at e2
      | @cons y w ys vs q2 r2 =>
        simp only [List.getElem?_cons_zero, Option.some.injEq] at e1 e2
        subst e1 e2
        obtain ⟨prs, g1, g2, g3⟩ := ih r1 r2 (by simpa [Nat.succ_min_succ] using hl) fun i k v h => by simpa using hm (i + 1) k v (by simpa using h)
        refine ⟨(k, w) :: prs, .cons ⟨rfl, q2⟩ g1, by simp [g2, Nat.succ_min_succ], fun i x y h1 h2 => ?_⟩
        cases i with
        | zero => simp at h1 h2; subst h1 h2; exact ⟨k, rfl, q1⟩
        | succ i => simpa using g3 i x y (by simpa using h1) (by simpa using h2)
theorem pe_dz {X : Cx} {e e2 : Expr} {t : TA} {p p2 p3 pos : Pos} (hc : X.calm = true) (hg : Gl X "dict") (hm : X.mg "dict" = none) (hg2 : Gl X "zip") (hm2 : X.mg "zip" = none) (ha : PA X [e, e2] t)
    (hs : starEach [e, e2] X.env = (false, eval e X.env) :: starEach [e2] X.env) (hpl : (backTo p3 (starEach [e2] X.env)).any (·.1) = false) : PE X (.Call (.Name "dict" p) [.Call (.Name "zip" p2) [e, e2] [] p3] [] pos) (tDz X.K t) := by
  refine ⟨fun pins s σ H Q I h => ?_⟩
  refine Call_ (ld_blt I hg hm boot_dict (PyProof.Rows.callWith_type1 (s := s) (Calls.spliced_cons ?_) rfl rfl))
  refine Call_ (ld_blt I hg2 hm2 PyProof.Rows.boot_zip (PyProof.Rows.callWith_type1 (thn (ha.run p3 pins s σ H _ I h) fun us s1 ⟨vs, H1, I1, r1, q1⟩ => ?_) hs hpl))
  obtain ⟨a, b, xs, ys, more, rfl, hx, hy, hl, hmo, hz, q⟩ := q1
  cases r1 with
  | cons c1 rr =>
    cases rr with
    | cons c2 rr =>
      cases rr
      cases c1
      cases c2
      obtain ⟨its, rv, p1, z1⟩ := I1.tuple hx
      obtain ⟨its2, rv2, p2', z2⟩ := I1.tuple hy
      obtain ⟨o1, ho1, hc1⟩ := id p1
      obtain ⟨o2, ho2, hc2⟩ := id p2'
      refine call_zipT (show s1.heap.IsTuple a its.toArray from p1) (show s1.heap.IsTuple b its2.toArray from p2') fun h' hz' hTI hTO h1 h2 hsz hk => ?_
      have I2 : Inv X pins σ H1 { s1 with heap := h' } := I1.kept (t' := s1.toks) hk
      refine Calls.spliced_nil ?_
      obtain ⟨prs, kv, kl, kp⟩ := more_vals rv rv2 hl hmo
      have D := PySem.W.ktu_apart s1.heap.objs.size a b (Heap.lt_size ho1) (Heap.lt_size ho2)
      have at1 : h'.IsTuple a its.toArray := ⟨o1, hk _ _ ho1, hc1⟩
      have at2 : h'.IsTuple b its2.toArray := ⟨o2, hk _ _ ho2, hc2⟩
      refine call_dict_pairs (s := { s1 with heap := h' }) (knd := mixKind X.prog X.w) (kvs := prs) (zipT_pairs _ _ _ _ _ a b D its.toArray its2.toArray) (I.ok.hd hc) ⟨hz', ⟨hTI, h1, h2, at1, at2⟩, _, _, hTO⟩ ⟨by simp [kl], fun i k v ⟨g1, g2⟩ => ?_⟩ ?_ fun h2' tk hd hk2 => ?_
      · obtain ⟨kk, e1, e2⟩ := kp i k v (by simpa using g1) (by simpa using g2)
        exact ⟨kk, e1, kV_is e2⟩
      · have e1 := rv.length
        simp only [List.size_toArray]
        exact Nat.le_trans (Nat.min_le_left _ _) (by rw [← e1]; exact z1)
      · have hle : s1.heap.objs.size ≤ h'.objs.size := by rw [hsz]; omega
        have hms : (h'.objs.size == sysModules) = false := beq_eq_false_iff_ne.mpr (Ne.symm (Nat.ne_of_lt (Nat.lt_of_lt_of_le I1.big hle)))
        refine ⟨.ref h'.objs.size, _, I1.laid (t' := tk) (o := .dK (mergeK [] more)) (fun b u eb => hk2 b u ?_ (hk b u eb)) hle (dk_new hz hms (KV.merge kv .nil) hd), rfl, q _ (I1.hok.fresh hle)⟩
        have hlt : b < s1.heap.objs.size := Heap.lt_size eb
        intro hb
        simp only [List.mem_cons, List.not_mem_nil, or_false] at hb
        have hz9 : b = s1.heap.objs.size + 4 ∨ b = s1.heap.objs.size + 3 ∨ b = s1.heap.objs.size ∨ b = s1.heap.objs.size + 1 := hb
        have : ∀ {x y : Nat}, x < y → ¬ (x = y + 4 ∨ x = y + 3 ∨ x = y ∨ x = y + 1) := by omega
        exact this hlt hz9
theorem ok_dz (hq : C.calm = true) {x y : Str} {e e2 : Expr} {ms : MA} {p p2 p3 pos : Pos} (hx' : x = "dict") (hx : x ∈ T.blt) (hg : C.sc.names.lookup x = some .globalImplicit) (hy' : y = "zip") (hy : y ∈ T.blt) (hg2 : C.sc.names.lookup y = some .globalImplicit) (hs : noStar e = true) (hs2 : noStar e2 = true) (h : OkA T C [e, e2] ms) :
    OkE T C (.Call (.Name x p) [.Call (.Name y p2) [e, e2] [] p3] [] pos) (mDz ms) := by
  intro n X wx q
  subst hx' hy'
  refine PE.of (pe_dz (q.calm.trans hq) (gl_of q hg) (q.blt _ hx) (gl_of q hg2) (q.blt _ hy) (h n X wx q) (noStar_each hs) (noStars_any (by simp [hs2]))) fun s H Q w => ?_
  obtain ⟨mu, M, r, mr, sr, sat⟩ := w
  refine ⟨mu, M, r, mr, sr, sat.bind.imp fun ds M1 W1 l1 m1 s1 vs dvs => ?_⟩
  split at s1
  · rename_i da db
    split at s1
    · rename_i l el
      obtain ⟨hc, s1⟩ := sat_ite s1
      simp only [Bool.and_eq_true] at hc
      obtain ⟨v, u, rfl, dv, du⟩ := rels2 dvs
      simp only [DRel] at dv du
      obtain ⟨a, xs, rfl, ta, ra⟩ := dv
      obtain ⟨b, ys, rfl, tb, rb⟩ := du
      obtain ⟨more, g1, g2, g3⟩ := mergeD_rel da db [] l xs ys [] el ra rb .nil
      refine ⟨a, b, xs, ys, more, rfl, ta.sq, tb.sq, g1, g2, ?_, fun pp hp => ?_⟩
      · rw [← Paired.length g3, sizeLine_eq]; exact Nat.le_of_ble_eq_true hc.2
      · obtain ⟨l2, m2⟩ := m1.bornO hp (.dK (mergeK [] more)) (.dks false l) fun W' lk e ek => ⟨_, ⟨ek, e⟩, ksr_ks0 (Paired.mapP g3 fun _ _ q => q.lk lk) hc.1⟩
        refine s1 _ l2 m2 (.ref pp) ?_
        simp only [DRel]
        refine ⟨pp, rfl, ?_⟩
        show (W1.mu.l ++ [pp])[M1.length]? = some pp
        rw [← m1.len, List.getElem?_append_right (Nat.le_refl _)]
        simp
    · exact s1.elim
  · exact s1.elim
end RI

set_option maxHeartbeats 4000000
namespace RI
open PySem PySem.Spec PyProof.Rows L2
variable {T : Tb} {C : CC}
/-! ### a dict that is being made, seen by none -/
structure AccK (K : Kb) (W1 : Wd) (Dl : Addr) (W : Wd) (M : Mem) (acc : List (D × D)) (kvs : List (Key × V)) : Prop where
  m : MRel K W M
  lk : Lk W1 W
  p : W.mu.p = Dl :: W1.mu.p
  pv : ∀ a, a ∈ W1.mu.p → W.H a = W1.H a
  at_ : W.H Dl = some (.dK kvs)
  dr : Paired (KS0 K W) acc kvs
section
variable {K : Kb} {W1 W W' : Wd} {Dl : Addr} {M M' : Mem} {acc : List (D × D)} {kvs : List (Key × V)}
theorem AccK.start (m1 : MRel K W1 M) (hD : W1.H Dl = none) : AccK K W1 Dl ⟨upd W1.H Dl (.dK []), ⟨W1.mu.l, Dl :: W1.mu.p, W1.mu.k⟩⟩ M [] [] := by
  obtain ⟨lk, m⟩ := priv_in m1 hD (.dK [])
  refine ⟨m, lk, rfl, fun a ha => ?_, upd_same, .nil⟩
  obtain ⟨⟨u, e⟩, q⟩ := m1.pv a ha
  show upd W1.H Dl (.dK []) a = _
  rw [upd_ne (ne_of_none e hD)]
theorem AccK.go (h : AccK K W1 Dl W M acc kvs) (l : Le W W') (m' : MRel K W' M') : AccK K W1 Dl W' M' acc kvs := by
  refine ⟨m', h.lk.trans l.toLk, l.pv.trans h.p, fun a ha => ?_, ?_, Paired.mapP h.dr fun _ _ q => q.lk l.toLk⟩
  · rw [l.pvk a (by rw [h.p]; exact List.mem_cons_of_mem _ ha)]; exact h.pv a ha
  · rw [l.pvk Dl (by rw [h.p]; exact List.mem_cons_self)]; exact h.at_
theorem AccK.put (h : AccK K W1 Dl W M acc kvs) (fz : Dl ∉ W1.mu.p) {kd vd : D} {k : Key} {vv : V} (hk : D.key1 kd = some k) (dv : DRel K W vd vv) : AccK K W1 Dl ⟨upd W.H Dl (.dK (putK kvs k vv)), W.mu⟩ M (dkset k kd vd acc) (putK kvs k vv) := by
  have hDp : Dl ∈ W.mu.p := by rw [h.p]; exact List.mem_cons_self
  have nDl : Dl ∉ W.mu.l := (h.m.pv Dl hDp).2
  have lk7 : Lk W ⟨upd W.H Dl (.dK (putK kvs k vv)), W.mu⟩ := ⟨⟨[], by simp⟩, fun a o hh nf => ⟨by
    show upd W.H Dl _ a = _
    rw [upd_ne (by rintro rfl; exact nf.2 hDp)]; exact hh, nf⟩⟩
  refine ⟨h.m.lk lk7 rfl rfl (fun a ha => upd_ne (by rintro rfl; exact nDl ha)) (fun a ha => ?_), h.lk.trans lk7, h.p, fun a ha => ?_, upd_same, Paired.mapP (dk0set hk dv h.dr) fun _ _ q => q.lk lk7⟩
  · by_cases ea : a = Dl
    · subst ea
      exact ⟨⟨_, upd_same⟩, nDl⟩
    · obtain ⟨⟨u, e⟩, q⟩ := h.m.pv a ha
      exact ⟨⟨u, by show upd W.H Dl _ a = _; rw [upd_ne ea]; exact e⟩, q⟩
  · have ea : a ≠ Dl := by rintro rfl; exact fz ha
    show upd W.H Dl _ a = _
    rw [upd_ne ea]; exact h.pv a ha
theorem AccK.done (h : AccK K W1 Dl W M acc kvs) (m1 : MRel K W1 M0) (hD : W1.H Dl = none) (b : D.bels M.length (acc.map (·.2)) = true) : ∃ mu', Le W1 ⟨W.H, mu'⟩ ∧ MRel K ⟨W.H, mu'⟩ (M ++ [.dks false acc]) ∧ DRel K ⟨W.H, mu'⟩ (.obj M.length) (.ref Dl) := by
  have fz := (m1.fresh hD).2
  have hDp : Dl ∈ W.mu.p := by rw [h.p]; exact List.mem_cons_self
  have nDl : Dl ∉ W.mu.l := (h.m.pv Dl hDp).2
  have npk : Dl ∉ W.mu.k := fun z => (h.m.kk Dl z).2 hDp
  have lk3 : Lk W ⟨W.H, ⟨W.mu.l ++ [Dl], W1.mu.p, W.mu.k⟩⟩ := ⟨⟨[Dl], rfl⟩, fun a o hh nf => ⟨hh, nf.1.imp_left fun n1 => by
    show a ∉ W.mu.l ++ [Dl]
    simp only [List.mem_append, List.mem_singleton, not_or]
    exact ⟨n1, by rintro rfl; exact nf.2 hDp⟩, fun z => nf.2 (by rw [h.p]; exact List.mem_cons_of_mem _ z)⟩⟩
  refine ⟨⟨W.mu.l ++ [Dl], W1.mu.p, W.mu.k⟩, ⟨h.lk.trans lk3, rfl, fun a ha => h.pv a ha⟩, ⟨by simp [h.m.len], ?_, fun i a u h1 h2 => ?_, fun a ha => ?_, fun a ha => ?_⟩, ?_⟩
  · show (W.mu.l ++ [Dl]).Nodup
    rw [List.nodup_append]
    refine ⟨h.m.nd, by simp, ?_⟩
    intro x hx y hy e
    simp only [List.mem_singleton] at hy
    subst hy; subst e; exact nDl hx
  · have h1 : (W.mu.l ++ [Dl])[i]? = some a := h1
    by_cases hi : i < W.mu.l.length
    · rw [List.getElem?_append_left hi] at h1
      rw [List.getElem?_append_left (by rw [← h.m.len]; exact hi)] at h2
      exact (h.m.obj i a u h1 h2).lk lk3 rfl Iff.rfl
    · have e : i = W.mu.l.length := by
        have : i < (W.mu.l ++ [Dl]).length := by
          by_cases q : i < (W.mu.l ++ [Dl]).length
          · exact q
          · rw [List.getElem?_eq_none (by omega)] at h1; cases h1
        simp at this
        omega
      subst e
      rw [List.getElem?_append_right (Nat.le_refl _)] at h1
      rw [h.m.len, List.getElem?_append_right (Nat.le_refl _)] at h2
      simp at h1 h2
      subst h1; subst h2
      exact ⟨kvs, ⟨npk, h.at_⟩, ksr_ks0 (Paired.mapP h.dr fun _ _ q => q.lk lk3) (by rw [h.m.len]; exact b)⟩
  · obtain ⟨⟨u, e⟩, q⟩ := h.m.pv a (by rw [h.p]; exact List.mem_cons_of_mem _ ha)
    refine ⟨⟨u, e⟩, ?_⟩
    show a ∉ W.mu.l ++ [Dl]
    simp only [List.mem_append, List.mem_singleton, not_or]
    exact ⟨q, by rintro rfl; exact fz ha⟩
  · obtain ⟨⟨u, e⟩, q⟩ := h.m.kk a ha
    exact ⟨⟨u, e⟩, fun z => q (by rw [h.p]; exact List.mem_cons_of_mem _ z)⟩
  · simp only [DRel]
    refine ⟨Dl, rfl, ?_⟩
    show (W.mu.l ++ [Dl])[M.length]? = some Dl
    rw [← h.m.len, List.getElem?_append_right (Nat.le_refl _)]
    simp
end
/-! ### {k: v for ..}, keys numbers or texts -/
def dcG (gd : Gd) (g : MG) (mt : MT) (mk mv : ME) (F : FT) (r : EV) : List D → List (D × D) → Mem → Res (List (D × D))
  | [], acc, M => if Gd.ok gd M = true then .ok acc M else .bad
  | d :: ds, acc, M => if Gd.ok gd M = true then (g F d r M).bind fun r1 M1 => (mt F r1 M1).bind fun k M2 =>
    if k then (mk F r1 M2).bind fun kd M3 => (mv F r1 M3).bind fun vd M4 => match D.key1 kd with
      | some kk => if Nat.blt acc.length 16777216 = true then dcG gd g mt mk mv F r ds (dkset kk kd vd acc) M4 else .bad
      | none => .bad
    else dcG gd g mt mk mv F r ds acc M2 else .bad
def dcEnd (l : List (D × D)) (M : Mem) : Res D := if D.bels M.length (l.map (·.2)) = true then .ok (.obj M.length) (M ++ [.dks false l]) else .bad
def mDc (mi : MI) (g : MG) (mt : MT) (mk mv : ME) (vs : List Nat) : ME := fun F r M => (mi F r M).bind fun p M1 => (dcG p.2 g mt mk mv F (wipeE r vs) p.1 [] M1).noX.bind dcEnd
theorem tDc_of {K : Kx} {F : FT} {mi : MI} {g : MG} {mt : MT} {mk mv : ME} {vs : List Nat} {s : L2.St} {H : Hp} {Q : VK} (q : rdE K F (mDc mi g mt mk mv vs) s H Q) :
    tDc (rdI K F mi) (rdGc K.b.no F vs g) (rdT K.b.no F mt) (rdE K.b.no F mk) (rdE K.b.no F mv) vs s H Q := by
  obtain ⟨mu, M, r, mr, sr, sat⟩ := q
  refine ⟨mu, M, r, mr, sr, sat.bind.imp fun p M1 W1 l1 m1 s1 J wk Dl hD => ?_⟩
  obtain ⟨ds, gd⟩ := p
  have fz := (m1.fresh hD).2
  have sr1 : SRel K W1 s r := sr.le l1
  refine ⟨fun i m H2 => m = ds.length - i ∧ i ≤ ds.length ∧ ∃ mu2 M2 acc kvs, AccK K W1 Dl ⟨H2, mu2⟩ M2 acc kvs ∧ Sat (K.at s) W1 ((dcG gd g mt mk mv F (wipeE r vs) (ds.drop i) acc M2).noX.bind dcEnd) (PV K Q), ⟨ds.length, rfl, Nat.zero_le _, _, M1, [], [], AccK.start m1 hD, s1⟩, ?_⟩
  rintro i m H2 ⟨rfl, hle, mu2, M2, acc, kvs, A, sat2⟩
  by_cases hlt : i < ds.length
  · right
    rw [drop_cons hlt] at sat2
    simp only [dcG] at sat2
    by_cases hgd : Gd.ok gd M2 = true
    case neg => rw [if_neg hgd] at sat2; exact sat2.elim
    rw [if_pos hgd] at sat2
    refine ⟨wk.go i _ _ A.lk A.m hgd hlt, fun H' => ∃ mu2 M2 acc kvs, AccK K W1 Dl ⟨H', mu2⟩ M2 acc kvs ∧ Sat (K.at s) W1 ((dcG gd g mt mk mv F (wipeE r vs) (ds.drop (i + 1)) acc M2).noX.bind dcEnd) (PV K Q), fun H' h => ⟨ds.length - (i + 1), by omega, rfl, hlt, h⟩, fun x H' y => ?_⟩
    obtain ⟨W3, rfl, le3, mr3, dx⟩ := wk.yld i ds[i] _ M2 x H' (List.getElem?_eq_getElem hlt) A.lk A.m hgd y
    have A3 := A.go le3 mr3
    have srw : SRel K W3 (wipe s vs) (wipeE r vs) := (sr1.wipe vs).lk A3.lk
    refine ⟨W3.mu, M2, wipeE r vs, mr3, srw, ds[i], dx, ?_⟩
    cases e1 : g F ds[i] (wipeE r vs) M2 with
    | bad => rw [e1] at sat2; exact sat2.elim
    | exc _ _ => rw [e1] at sat2; exact sat2.elim
    | ok r4 M4 =>
      rw [e1] at sat2
      simp only [Res.bind_ok] at sat2
      intro W4 l4 m4 s4 sr4 es4
      have A4 := A3.go l4 m4
      refine ⟨es4.trans (wipe_wipe s vs), W4.mu, M4, r4, m4, sr4, ?_⟩
      cases e2 : mt F r4 M4 with
      | bad => rw [e2] at sat2; exact sat2.elim
      | exc _ _ => rw [e2] at sat2; exact sat2.elim
      | ok k M5 =>
        rw [e2] at sat2
        simp only [Res.bind_ok] at sat2
        show Sat (K.b.no.at s4) W4 (mt F r4 M4) _
        rw [e2]
        intro W5 l5 m5
        have A5 := A4.go l5 m5
        cases k with
        | false =>
          refine iteF ?_
          simp only [Bool.false_eq_true, if_false] at sat2
          exact ⟨W5.mu, M5, acc, kvs, A5, sat2⟩
        | true =>
          simp only [if_true] at sat2
          refine iteT ⟨W5.mu, M5, r4, m5, sr4.le l5, ?_⟩
          cases e3 : mk F r4 M5 with
          | bad => rw [e3] at sat2; exact sat2.elim
          | exc _ _ => rw [e3] at sat2; exact sat2.elim
          | ok kd M6 =>
            rw [e3] at sat2
            simp only [Res.bind_ok] at sat2
            show Sat (K.b.no.at s4) W5 (mk F r4 M5) _
            rw [e3]
            intro W6 l6 m6 kv dk
            have A6 := A5.go l6 m6
            refine ⟨W6.mu, M6, r4, m6, (sr4.le l5).le l6, ?_⟩
            cases e4 : mv F r4 M6 with
            | bad => rw [e4] at sat2; exact sat2.elim
            | exc _ _ => rw [e4] at sat2; exact sat2.elim
            | ok vd M7 =>
              rw [e4] at sat2
              simp only [Res.bind_ok] at sat2
              show Sat (K.b.no.at s4) W6 (mv F r4 M6) _
              rw [e4]
              intro W7 l7 m7 vv dv
              have A7 := A6.go l7 m7
              cases ek : D.key1 kd with
              | none => simp only [ek] at sat2; exact sat2.elim
              | some kk =>
                simp only [ek] at sat2
                have hx := key1_kV ek dk
                subst hx
                by_cases hz : Nat.blt acc.length 16777216 = true
                case neg => rw [if_neg hz] at sat2; exact sat2.elim
                rw [if_pos hz] at sat2
                refine ⟨kvs, kk, rfl, A7.at_, by rw [← Paired.length A7.dr, sizeLine_eq]; exact Nat.le_of_ble_eq_true hz, W7.mu, M7, _, _, A7.put fz ek dv, sat2⟩
  · left
    have e : i = ds.length := by omega
    subst e
    rw [List.drop_length] at sat2
    simp only [dcG] at sat2
    by_cases hgd : Gd.ok gd M2 = true
    case neg => rw [if_neg hgd] at sat2; exact sat2.elim
    rw [if_pos hgd] at sat2
    refine ⟨wk.stop _ _ A.lk A.m hgd, ?_⟩
    simp only [Res.noX_ok, Res.bind_ok, dcEnd] at sat2
    obtain ⟨hb, sat2⟩ := sat_ite sat2
    obtain ⟨mu', a1, a2, a3⟩ := A.done m1 hD hb
    exact sat2 _ a1 a2 (.ref Dl) a3
theorem ok_dc (hq : C.calm = true) {kx vx tg iter : Expr} {ifs : List Expr} {scope : Scope} {own : List (Str × Nat)} {pos : Pos} {mi : MI} {g : MG} {mt : MT} {mk mv : ME} {vs : List Nat} (hv : own.map (·.2) = vs) (hs : noSet iter = true) (ok : blkC C.N C.sc scope own = true) (hi : OkI T C tg iter mi)
    (hg : OkGc T (C.blk scope) vs tg g) (ht : OkTs T (C.blk scope) ifs mt) (hk : OkE T (C.blk scope) kx mk) (he : OkE T (C.blk scope) vx mv) : OkE T C (.DictComp kx vx [⟨tg, iter, ifs, 0⟩] scope pos) (mDc mi g mt mk mv vs) := by
  intro n X wx h
  have bo : BlkOk X.N X.env.scope scope own := by rw [h.N, h.sc]; exact blkOk_by ok
  subst hv
  have cx := fun (s : Shared) (H : Hp) (Ca : Addr) (cl : List (Str × Addr)) (fp : List Addr) => h.blk hq bo.kind s H Ca cl fp
  refine PE.of (pe_dc (g := rdGc (kb X).no (callF T n) (own.map (·.2)) g) (tt := rdT (kb X).no (callF T n) mt) (tk := rdE (kb X).no (callF T n) mk) (tv := rdE (kb X).no (callF T n) mv) (h.calm.trans hq) h.nd (hi n X wx h) bo
    (fun s H Ca cl fp => by rw [← kx_blk h hq s H scope (compEnvC scope cl Ca X.env) fp]; exact hg n _ _ (cx s H Ca cl fp)) (fun s H Ca cl fp => by rw [← kx_blk h hq s H scope (compEnvC scope cl Ca X.env) fp]; exact ht n _ _ (cx s H Ca cl fp))
    (fun s H Ca cl fp => by rw [← kx_blk h hq s H scope (compEnvC scope cl Ca X.env) fp]; exact hk n _ _ (cx s H Ca cl fp)) (fun s H Ca cl fp => by rw [← kx_blk h hq s H scope (compEnvC scope cl Ca X.env) fp]; exact he n _ _ (cx s H Ca cl fp)) (noSet_it hs)) fun s H Q q => tDc_of q
end RI

set_option maxHeartbeats 4000000
namespace RI
open PySem PySem.Spec PyProof.Rows L2
variable {T : Tb} {C : CC}
/-! ### dicts of the module -/
def mInKd (l : List (List Nat × D)) (neg : Bool) (m : ME) : ME := fun F r M => (m F r M).bind fun d M1 => match d with
  | .str s => .ok (.bl (if neg then !(l.lookup s).isSome else (l.lookup s).isSome)) M1
  | _ => .bad
def mIxKd (l : List (List Nat × D)) (m : ME) : ME := fun F r M => (m F r M).bind fun d M1 => match d with
  | .str s => (match l.lookup s with
    | some v => .ok v M1
    | none => .bad)
  | _ => .bad
def KdZ (K : PySem.W.Frag) (d : Addr) (l : List (List Nat × D)) : Prop := ∀ z : List Nat, match l.lookup z with
  | some dd => ∃ u v, PySem.W.nsIn K d ⟨z.toArray⟩ = some (some u) ∧ RelV v u ∧ flatR dd v
  | none => PySem.W.nsIn K d ⟨z.toArray⟩ = some none
theorem inKd_of {K : Kx} {F : FT} {d : Addr} {l : List (List Nat × D)} {neg : Bool} {m : ME} {s : L2.St} {H : Hp} {Q : VK} {Kf : PySem.W.Frag} (hz : KdZ Kf d l) (q : rdE K F (mInKd l neg m) s H Q) : tOp (fun x y H Q => ∃ (z : Str) (r : Option Value), x = .str z ∧ y = .ref d ∧ PySem.W.nsIn Kf d z = some r ∧ Q (.bl (if neg then !r.isSome else r.isSome)) H) (rdE K F m) (tC (.ref d)) s H Q := by
  obtain ⟨mu, M, r, mr, sr, sat⟩ := q
  refine ⟨mu, M, r, mr, sr, sat.bind.imp fun dd M1 W1 l1 m1 s1 v dv => ?_⟩
  cases dd with
  | str z =>
    cases (show v = _ from dv)
    obtain ⟨rr, e1, e2⟩ : ∃ r, PySem.W.nsIn Kf d ⟨z.toArray⟩ = some r ∧ r.isSome = (l.lookup z).isSome := by
      have := hz z
      split at this
      · rename_i dd e
        obtain ⟨u, v, h1, _⟩ := this
        exact ⟨some u, h1, by rw [e]; rfl⟩
      · rename_i e
        exact ⟨none, this, by rw [e]; rfl⟩
    refine ⟨_, rr, rfl, rfl, e1, ?_⟩
    rw [e2]
    exact s1.ok m1 _ rfl
  | _ => exact s1.elim
theorem op_inKd {X : Cx} {d : Addr} {es : Array DictEntry} {n : Nat} (neg : Bool) (D : KDict X.K X.w d es n) : OpR X (compareOp (if neg then .NotIn else .In)) (fun x y H Q => ∃ (z : Str) (r : Option Value), x = .str z ∧ y = .ref d ∧ PySem.W.nsIn X.K d z = some r ∧ Q (.bl (if neg then !r.isSome else r.isSome)) H) := by
  cases neg with
  | true => exact op_notIn_kd D
  | false => exact op_in_kd D
theorem ok_inKd (neg : Bool) {x : Str} {l : List (List Nat × D)} {p pos : Pos} {e : Expr} {m : ME} {op : CmpOp} (ho : op = if neg then .NotIn else .In) (hx : (x, l) ∈ T.kds) (hg : C.sc.names.lookup x = some .globalImplicit) (hd : (x == ("__debug__" : Str)) = false) (he : OkE T C e m) (hm : behindInMarks op (.Name x p) = false) : OkE T C (.Compare e [op] [.Name x p] pos) (mInKd l neg m) := by
  intro n X wx h
  subst ho
  obtain ⟨d, es, k, hmg, D, hz⟩ := h.kds _ hx
  exact PE.of (pe_cmpR (op_inKd neg D) (he n X wx h) (pe_glob (v := .ref d) (gl_of h hg) hmg rfl hd) hm) fun s H Q q => inKd_of hz q
theorem ok_tinKd (neg : Bool) {x : Str} {l : List (List Nat × D)} {p pos : Pos} {e : Expr} {m : ME} {op : CmpOp} (ho : op = if neg then .NotIn else .In) (hx : (x, l) ∈ T.kds) (hg : C.sc.names.lookup x = some .globalImplicit) (hd : (x == ("__debug__" : Str)) = false) (he : OkE T C e m) (hm : behindInMarks op (.Name x p) = false) : OkT T C (.Compare e [op] [.Name x p] pos) (mTB (mInKd l neg m)) := by
  intro n X wx h
  subst ho
  obtain ⟨d, es, k, hmg, D, hz⟩ := h.kds _ hx
  exact PT.of (pt_cmpR (op_inKd neg D) (he n X wx h) (pe_glob (v := .ref d) (gl_of h hg) hmg rfl hd) hm) fun s H Q q => inKd_of hz (tB_of q)
theorem ok_ixKd {x : Str} {l : List (List Nat × D)} {p pos : Pos} {e : Expr} {m : ME} (hx : (x, l) ∈ T.kds) (hg : C.sc.names.lookup x = some .globalImplicit) (hd : (x == ("__debug__" : Str)) = false) (hs : noSlice e = true) (he : OkE T C e m) : OkE T C (.Subscript (.Name x p) e pos) (mIxKd l m) := by
  intro n X wx h
  obtain ⟨d, es, k, hmg, D, hz⟩ := h.kds _ hx
  refine PE.of (pe_ix ix_kdict (pe_glob (v := .ref d) (gl_of h hg) hmg rfl hd) (he n X wx h) (noSlice_ix hs)) fun s H Q q => ?_
  obtain ⟨mu, M, r, mr, sr, sat⟩ := q
  refine ⟨mu, M, r, mr, sr, sat.bind.imp fun dd M1 W1 l1 m1 s1 v dv => ?_⟩
  cases dd with
  | str z =>
    cases (show v = _ from dv)
    simp only at s1
    have hzz := hz z
    split at s1
    · rename_i vd ev
      rw [show (x, l).2.lookup z = some vd from ev] at hzz
      obtain ⟨u, v', h1, h2, h3⟩ := hzz
      exact ⟨d, _, v', rfl, rfl, ⟨es, k, u, D.at_, D.lit, h1, h2⟩, s1.ok m1 _ h3.d⟩
    · exact s1.elim
  | _ => exact s1.elim
end RI

set_option maxHeartbeats 4000000
namespace RI
open PySem PySem.Spec PyProof.Rows L2
variable {T : Tb} {C : CC}
/-! ### list(range(n)) -/
def rgD (a b : Int) : List D := (rgV a b).map fun v => match v with
  | .int i => .int i
  | _ => .non
theorem rgD_eq (n : Nat) : rgD 0 n = (List.range n).map fun i : Nat => D.int i := by
  unfold rgD rgV
  simp [List.map_map, Function.comp_def]
theorem rgD_rel {K : Kb} {W : Wd} (a b : Int) : DRels K W (rgD a b) (rgV a b) := by
  unfold rgD rgV
  rw [List.map_map]
  induction List.range (b - a).toNat with
  | nil => rfl
  | cons x l ih => exact ⟨_, _, rfl, rfl, ih⟩
def mLRg (mt : Bool) (m : ME) : ME := fun F r M => (m F r M).bind fun d M1 => match d with
  | .int i => if (decide (0 ≤ i) && decide (i ≤ 1000000)) = true then (if mt = true then newO (rgD 0 i) M1 else .ok (.lst (rgD 0 i)) M1) else .bad
  | _ => .bad
theorem ok_lrg (hq : C.calm = true) {mt : Bool} {x y : Str} {e : Expr} {m : ME} {p p2 p3 pos : Pos} (hx' : x = "list") (hx : x ∈ T.blt) (hg : C.sc.names.lookup x = some .globalImplicit) (hy' : y = "range") (hy : y ∈ T.blt) (hg2 : C.sc.names.lookup y = some .globalImplicit) (hs : noStar e = true) (h : OkE T C e m) :
    OkE T C (.Call (.Name x p) [.Call (.Name y p2) [e] [] p3] [] pos) (mLRg mt m) := by
  intro n X wx q
  subst hx' hy'
  refine PE.of (pe_listRg (q.calm.trans hq) (gl_of q hg) (q.blt _ hx) (prg_1 (gl_of q hg2) (q.blt _ hy) (h n X wx q) (noStar_each hs))) fun s H Q w => ?_
  obtain ⟨mu, M, r, mr, sr, sat⟩ := w
  refine ⟨mu, M, r, mr, sr, sat.bind.imp fun d M1 W1 l1 m1 s1 v dv => ?_⟩
  cases d with
  | int i =>
    cases (show v = _ from dv)
    obtain ⟨hc, s1⟩ := sat_ite s1
    simp only [Bool.and_eq_true, decide_eq_true_eq] at hc
    refine ⟨i, rfl, ?_, fun qq hqq => ?_⟩
    · exact RgOk.of_le (Int.le_refl 0) (by omega) (by omega) hc.1
    · cases mt with
      | true => exact new_obj m1 (rgD_rel 0 i) s1 hqq
      | false => exact new_lst m1 (rgD_rel 0 i) s1 hqq
  | _ => exact s1.elim
end RI

set_option maxHeartbeats 4000000
namespace RI
open PySem PySem.Spec PyProof.Rows L2
variable {T : Tb} {C : CC}
/-! ### sorted(set(tuple of texts)) -/
theorem leDD_tot (a b : D) : (leDD a b || leDD b a) = true := by
  unfold leDD ltDD PySem.W.dataLt
  cases h : lexLt itemOrd (PySem.W.keyToks (D.toP b)) (PySem.W.keyToks (D.toP a)) with
  | false => rfl
  | true =>
    cases h' : lexLt itemOrd (PySem.W.keyToks (D.toP a)) (PySem.W.keyToks (D.toP b)) with
    | false => rfl
    | true =>
      have := lex_trans (O := itemOrd) _ _ _ h h'
      rw [lex_irrefl] at this
      cases this
theorem leDD_trans (a b c : D) (h1 : leDD a b = true) (h2 : leDD b c = true) : leDD a c = true := by
  unfold leDD ltDD PySem.W.dataLt at *
  cases h : lexLt itemOrd (PySem.W.keyToks (D.toP c)) (PySem.W.keyToks (D.toP a)) with
  | false => rfl
  | true =>
    rcases lex_negTrans (O := itemOrd) _ (PySem.W.keyToks (D.toP b)) _ h with h | h
    · rw [h] at h2; cases h2
    · rw [h] at h1; cases h1
theorem leDD_anti {a b : List Nat} (h1 : leDD (.str a) (.str b) = true) (h2 : leDD (.str b) (.str a) = true) : a = b := by
  unfold leDD ltDD PySem.W.dataLt at *
  have := lex_total (O := itemOrd) _ _ (by simpa using h1) (by simpa using h2)
  simp only [D.toP, PySem.W.keyToks, List.cons.injEq, Sum.inr.injEq, and_true] at this
  exact this.symm
theorem srtL_perm {l l' : List (List Nat)} (p : l.Perm l') : srtL (l.map .str) = srtL (l'.map .str) := by
  have h1 := List.pairwise_mergeSort (le := leDD) leDD_trans leDD_tot (l.map .str)
  have h2 := List.pairwise_mergeSort (le := leDD) leDD_trans leDD_tot (l'.map .str)
  have p1 := List.mergeSort_perm (l.map D.str) leDD
  have p2 := List.mergeSort_perm (l'.map D.str) leDD
  refine List.Perm.eq_of_pairwise (le := fun a b => leDD a b = true) ?_ h1 h2 ((p1.trans (p.map _)).trans p2.symm)
  intro a b ha hb q1 q2
  obtain ⟨x, _, rfl⟩ := List.mem_map.mp (p1.mem_iff.mp ha)
  obtain ⟨y, _, rfl⟩ := List.mem_map.mp (p2.mem_iff.mp hb)
  rw [leDD_anti q1 q2]
def strsOf : List D → Option (List (List Nat))
  | [] => some []
  | .str s :: r => (strsOf r).map (s :: ·)
  | _ => none
theorem strsOf_eq : ∀ {ds : List D} {ss : List (List Nat)}, strsOf ds = some ss → ds = ss.map .str
  | [], ss, h => by simp [strsOf] at h; subst h; rfl
  | .str s :: r, ss, h => by
    simp only [strsOf] at h
    cases e : strsOf r with
    | none => rw [e] at h; cases h
    | some t =>
      rw [e] at h
      simp at h
      subst h
      rw [strsOf_eq e]
      rfl
@[simp] theorem strsOf_map : ∀ ss : List (List Nat), strsOf (ss.map .str) = some ss
  | [] => rfl
  | s :: r => by simp [strsOf, strsOf_map r]
def mSrS (m : ME) : ME := fun F r M => (m F r M).bind fun d M1 => match d with
  | .tup ds => (match strsOf ds with
    | some ss => if Nat.blt ss.length 4000 = true then .ok (.lst (srtL ((firstK ss).map .str))) M1 else .bad
    | none => .bad)
  | _ => .bad
abbrev toS (s : List Nat) : Str := ⟨s.toArray⟩
theorem toS_inj {a b : List Nat} (h : toS a = toS b) : a = b := by
  injection h with h
  simpa using h
theorem addK_map (l : List (List Nat)) (k : List Nat) : addK (l.map toS) (toS k) = (addK l k).map toS := by
  unfold addK
  have : toS k ∈ l.map toS ↔ k ∈ l := by
    rw [List.mem_map]
    constructor
    · rintro ⟨a, ha, e⟩; rw [← toS_inj e]; exact ha
    · intro h; exact ⟨k, h, rfl⟩
  by_cases h : k ∈ l
  · rw [if_pos (this.mpr h), if_pos h]
  · rw [if_neg (fun z => h (this.mp z)), if_neg h]
    simp
theorem foldK_map : ∀ (ks l : List (List Nat)), (ks.map toS).foldl addK (l.map toS) = (ks.foldl addK l).map toS
  | [], l => rfl
  | k :: ks, l => by
    simp only [List.map_cons, List.foldl_cons, addK_map]
    exact foldK_map ks _
theorem firstK_map (ks : List (List Nat)) : firstK (ks.map toS) = (firstK ks).map toS := foldK_map ks []
/-- the set of texts at a -/
def SetLO (P : Program) (w : World) (a : Addr) (l : List Str) : HO := .ext fun h => SetL (strKind P w) h a l
theorem setLO_ok {P : Program} {w : World} {H : Hp} {h : Heap} {a : Addr} {l : List Str} (R : SetL (strKind P w) h a l) : ObjOk P w H h a (SetLO P w a l) := by
  have ⟨o, _, _, _, _, g, _⟩ := R
  exact ⟨R, ⟨o, g.ob⟩, fun h1 h2 p k => SetL.at p k⟩
def rSetT (X : Cx) : List V → Hp → VK → Prop := fun xs H Q => ∃ (a : Addr) (ss : List (List Nat)), xs = [.ref a] ∧ SqT X.K H a (ss.map fun s => V.str (toS s)) ∧ ss.length < 4000 ∧ ∀ p, H p = none → Q (.ref p) (upd H p (SetLO X.prog X.w p ((firstK ss).map toS)))
theorem cr_setT {X : Cx} (hc : X.calm = true) : CallR X (.type "set") (rSetT X) := by
  intro pins s σ H xs us Q I r h
  obtain ⟨a, ss, rfl, hq, hl, q⟩ := h
  obtain rfl := Vals.ref1 r
  obtain ⟨its, rv, pt, hz⟩ := I.tuple hq
  have hlen : its.length = ss.length := by rw [← rv.length, List.length_map]
  have hv : ∀ (i : Nat) (v : Value), its.toArray[i]? = some v → ∃ k : Str, (ss.map toS)[i]? = some k ∧ (strKind X.prog X.w).is k v = true ∧ v.scannable = true := fun i v e => by
    have e : its[i]? = some v := by simpa using e
    have gen : ∀ (ss : List (List Nat)) (its : List Value), Vals (ss.map fun s => V.str (toS s)) its → ∀ (i : Nat) (v : Value), its[i]? = some v → ∃ k : Str, (ss.map toS)[i]? = some k ∧ ∃ t, v = .str k t := by
      intro ss
      induction ss with
      | nil => intro its r i v e; cases r; simp at e
      | cons z ss ih =>
        intro its r i v e
        cases r with
        | cons r1 r2 =>
          cases i with
          | zero =>
            simp at e
            subst e
            exact ⟨toS z, rfl, r1⟩
          | succ i => simpa using ih _ r2 i v (by simpa using e)
    obtain ⟨k, e1, t, rfl⟩ := gen ss its rv i v e
    exact ⟨k, e1, strKind_is _ _ _ _, rfl⟩
  refine call_set_tup (knd := strKind X.prog X.w) (ss.map toS) (I.ok.hd hc) (show s.heap.IsTuple a its.toArray from pt) (by simp [hlen]) hv (by rw [List.length_map]; unfold scanBound; omega) fun h' tk hS hk => ?_
  rw [firstK_map] at hS
  exact ⟨.ref s.heap.objs.size, _, I.laid (t' := tk) (o := SetLO X.prog X.w s.heap.objs.size ((firstK ss).map toS)) hk (Nat.le_refl _) (setLO_ok hS), rfl, q _ (I.hok.fresh (Nat.le_refl _))⟩
def vStrs (ss : List (List Nat)) : List V := ss.map fun s => V.str (toS s)
theorem drel_strs {K : Kb} {W : Wd} : ∀ ss : List (List Nat), DRels K W (ss.map .str) (vStrs ss)
  | [] => rfl
  | s :: ss => ⟨_, _, rfl, rfl, drel_strs ss⟩
def rSrT (X : Cx) : List V → Hp → VK → Prop := fun xs H Q => ∃ (a : Addr) (ss : List (List Nat)) (W : Wd), W.H = H ∧ xs = [.ref a] ∧ H a = some (SetLO X.prog X.w a (ss.map toS)) ∧ ss.length < 4000 ∧ ∀ p zs, H p = none → DRels (kb X) W (srtL (ss.map .str)) zs → Q (.ref p) (upd H p (.lst zs))
theorem ord_strs (l : List (List Nat)) : (ordL (l.map .str) && sbl (l.map .str)) = true := by
  have h1 : D.noObjs (l.map .str) = true := by
    induction l with
    | nil => rfl
    | cons s l ih => simp only [List.map_cons, D.noObjs, D.noObj, ih, Bool.and_self]
  have h2 : alkD (l.map .str) = true := by
    unfold alkD
    rw [toPs_eq]
    simp only [List.map_map, List.all_eq_true, List.mem_map]
    rintro x ⟨a, _, rfl⟩ y ⟨b, _, rfl⟩
    rfl
  have h3 : ((l.map D.str).all D.noN) = true := by
    rw [List.all_eq_true]
    intro x hx
    obtain ⟨a, _, rfl⟩ := List.mem_map.mp hx
    rfl
  have h4 : PyData.depthAll (D.toPs (l.map .str)) = 0 := by
    clear h1 h2 h3
    induction l with
    | nil => rfl
    | cons s l ih => simp only [List.map_cons, D.toPs, D.toP, PyData.depthAll, PyData.depth, ih, Nat.max_self]
  have h5 : sbl (l.map .str) = true := by
    simp only [sbl, Bool.or_eq_true]
    right
    rw [List.all_eq_true]
    intro x hx
    obtain ⟨a, _, rfl⟩ := List.mem_map.mp hx
    rfl
  simp only [ordL, h1, h2, h3, h4, h5, Bool.and_self, Nat.ble]
def strD : Value → D
  | .str x _ => .str x.cps.toList
  | _ => .non
theorem is_strV {P : Program} {w : World} {k : Str} {v : Value} (h : (strKind P w).is k v = true) : ∃ t, v = .str k t := by
  cases v with
  | str x t =>
    have : Value.isStrOf k (.str x t) = true := h
    simp only [Value.isStrOf] at this
    exact ⟨t, by rw [eq_of_beq this]⟩
  | _ => cases h
theorem each_strs {P : Program} {w : World} {es : List (Int × Value)} {ks : List Str} (h : PySem.W.EachIs (fun (e : Int × Value) k => (strKind P w).is k e.2 = true) es ks) : PySem.W.EachIs (fun (v : Value) (k : Str) => ∃ t, v = .str k t) (es.map (·.2)) ks := by
  induction h with
  | nil => exact .nil
  | cons h1 _ ih => exact .cons (is_strV h1) ih
theorem strD_vals : ∀ (l : List (List Nat)) (vs : List Value), Vals (vStrs l) vs → vs.map strD = l.map .str
  | [], vs, h => by cases h; rfl
  | z :: l, vs, h => by
    cases h with
    | cons r1 r2 =>
      obtain ⟨t, rfl⟩ := r1
      simp only [List.map_cons, strD_vals l _ r2, strD]
theorem strs_rel {K : Kb} {W : Wd} : ∀ (ss : List (List Nat)) (xs : List V), DRels K W (ss.map .str) xs → xs = ss.map fun s => V.str (toS s)
  | [], xs, h => h
  | z :: ss, xs, h => by
    obtain ⟨v, r, rfl, h1, h2⟩ := h
    cases (show v = _ from h1)
    rw [strs_rel ss r h2]
    rfl
theorem cr_srT {X : Cx} (hc : X.calm = true) (hu : X.A.units + 70 < cLine) : CallR X (.builtin "sorted") (rSrT X) := by
  intro pins s σ H xs us Q I r h
  obtain ⟨a, ss, W, rfl, rfl, ha, hl, q⟩ := h
  obtain rfl := Vals.ref1 r
  obtain ⟨o, es, ep, t, ks, g, pk⟩ : SetL (strKind X.prog X.w) s.heap a (ss.map toS) := (I.hok a _ ha).1
  refine sorted_coll (Cd := fun s1 vs => Inv X pins σ W.H s1 ∧ ∃ l : List (List Nat), l.Perm ss ∧ Vals (vStrs l) vs) (κ := fun vs h1 => PySem.W.dataKind (PySem.W.sortingHeap (h1.push (seqObj "list" vs.toArray 0)) h1.objs.size vs) (D.toPs (vs.map strD))) (fun R hR => ?_) fun s1 vs ⟨I1, l, pl, hv⟩ => ?_
  · refine collect_set (A := X.A.in1) (I.ok.hd hc) ⟨o, g.ob, g.ex.1, g.dat⟩ g.fit g.few g.ris g.led fun s1 vs k1 hz g1 o1 pm => ?_
    refine hR s1 vs ⟨I.call' (ch := []) o1 (Un.kept k1) (I.hok.kept k1) (by rw [g1]; exact I.bare) (fun _ z => nomatch z), ?_⟩
    have e1 := each_strs g.each
    obtain ⟨ks2, e2, p2⟩ := each_perm pm e1
    have p3 := p2.trans pk
    refine ⟨ks2.map fun k => k.cps.toList, ?_, ?_⟩
    · have := p3.map fun k : Str => k.cps.toList
      simpa [List.map_map, Function.comp_def] using this
    · clear p2 p3 pm
      induction e2 with
      | nil => exact .nil
      | @cons v k vs ks h1 _ ih =>
        obtain ⟨t, rfl⟩ := h1
        exact .cons ⟨t, by simp [toS]⟩ ih
  · have el := strD_vals l vs hv
    rw [el]
    obtain ⟨a1, a2, a3⟩ := sorted_fin (W := W) rfl hu I1 (ord_strs l) (drel_strs l) (by rw [List.length_map, pl.length_eq, sizeLine_eq]; omega) hv
    refine ⟨a1, a2, a3 Q fun p zs hp dz => q p zs hp ?_⟩
    rw [← srtL_perm pl]
    exact dz
theorem ok_srs (hq : C.calm = true) {x y : Str} {e : Expr} {m : ME} {p p2 p3 pos : Pos} (hx' : x = "sorted") (hx : x ∈ T.blt) (hg : C.sc.names.lookup x = some .globalImplicit) (hy' : y = "set") (hy : y ∈ T.blt) (hg2 : C.sc.names.lookup y = some .globalImplicit) (hs : noStar e = true) (h : OkE T C e m) :
    OkE T C (.Call (.Name x p) [.Call (.Name y p2) [e] [] p3] [] pos) (mSrS m) := by
  intro n X wx q
  subst hx' hy'
  have hu := q.un
  refine PE.of (pe_callB (cr_srT (q.calm.trans hq) (by omega)) (gl_of q hg) (q.blt _ hx) boot_sorted (pa_cons (pe_callTy (cr_setT (q.calm.trans hq)) (gl_of q hg2) (q.blt _ hy) boot_set (pa_cons (h n X wx q) pa_nil (noStar_each hs)) (by decide) (by decide) (noStar_each hs) (by rfl)) pa_nil (by rfl)) (by decide) (by decide) (by rfl) (by rfl)) fun s H Q w => ?_
  obtain ⟨mu, M, r, mr, sr, sat⟩ := w
  refine ⟨mu, M, r, mr, sr, sat.bind.imp fun d M1 W1 l1 m1 s1 v dv => ?_⟩
  cases d with
  | tup ds =>
    simp only at s1
    split at s1
    · rename_i ss es
      obtain ⟨hl, s1⟩ := sat_ite s1
      have hl : ss.length < 4000 := Nat.le_of_ble_eq_true hl
      cases strsOf_eq es
      simp only [DRel] at dv
      obtain ⟨a, xs, rfl, ta, ra⟩ := dv
      have hxs := strs_rel ss xs ra
      subst hxs
      refine ⟨a, ss, rfl, ta.sq, hl, fun pp hp => ?_⟩
      obtain ⟨l2, m2⟩ := m1.laid hp (SetLO X.prog X.w pp ((firstK ss).map toS))
      refine ⟨pp, firstK ss, ⟨_, W1.mu⟩, rfl, rfl, upd_same, ?_, fun p' zs hp' dz => ?_⟩
      · have := foldK_len ss []
        simp only [List.length_nil] at this
        unfold firstK
        omega
      · exact new_lst (K := (kx X wx).at s) m2 dz (s1.le l2) hp'
    · exact s1.elim
  | _ => exact s1.elim
end RI

set_option maxHeartbeats 4000000
namespace RI
open PySem PySem.Spec PyProof.Rows L2

/-! ### what a call hands back -/
section
variable {K : Kb} {W W' : Wd} {M' : Mem} {mark : Nat}
abbrev cutW (W' : Wd) (mark : Nat) : Wd := ⟨W'.H, ⟨W'.mu.l.take mark, W'.mu.p, W'.mu.k⟩⟩
theorem fz_cut {a : Addr} (h : Fz W' a) : Fz (cutW W' mark) a := ⟨h.1.imp_left fun n z => n (List.mem_of_mem_take z), h.2⟩
mutual
theorem frz_rel {g : Nat → D} (hg : ∀ i v, DRel K W' (.obj i) v → D.bel mark (g i) = true → DRel K (cutW W' mark) (g i) v) : ∀ (d : D) (v : V), DRel K W' d v → D.bel mark (D.frz g d) = true → DRel K (cutW W' mark) (D.frz g d) v
  | .non, _, h, _ => h
  | .bl _, _, h, _ => h
  | .int _, _, h, _ => h
  | .str _, _, h, _ => h
  | .obj i, v, h, b => hg i v h b
  | .exn _ _ _, _, _, b => by simp [D.frz, D.bel] at b
  | .tup l, v, h, b => by
    simp only [D.frz, DRel, D.bel] at h b ⊢
    obtain ⟨a, xs, e, t, r⟩ := h
    refine ⟨a, xs, e, ?_, frzs_rel hg l xs r b⟩
    rcases t with t | t
    · exact .inl ⟨t.1, fz_cut t.2⟩
    · exact .inr t
  | .lst l, v, h, b => by
    simp only [D.frz, DRel, D.bel] at h b ⊢
    obtain ⟨a, xs, e, t, r⟩ := h
    refine ⟨a, xs, e, ?_, frzs_rel hg l xs r b⟩
    rcases t with t | t
    · exact .inl ⟨t.1, fz_cut t.2⟩
    · exact .inr t
  | .ins c ns ds, v, h, b => by
    simp only [D.frz, DRel, D.bel] at h b ⊢
    obtain ⟨a, C, dx, xs, e, hC, h1, f1, h2, f2, hl, r⟩ := h
    have hl' : (D.frzs g ds).length = ds.length := by
      clear r hl b
      induction ds with
      | nil => rfl
      | cons d ds ih => simp only [D.frzs, List.length_cons, ih]
    exact ⟨a, C, dx, xs, e, hC, h1, fz_cut f1, h2, fz_cut f2, by rw [hl']; exact hl, frzs_rel hg ds xs r b⟩
theorem frzs_rel {g : Nat → D} (hg : ∀ i v, DRel K W' (.obj i) v → D.bel mark (g i) = true → DRel K (cutW W' mark) (g i) v) : ∀ (ds : List D) (vs : List V), DRels K W' ds vs → D.bels mark (D.frzs g ds) = true → DRels K (cutW W' mark) (D.frzs g ds) vs
  | [], _, h, _ => h
  | d :: ds, _, h, b => by
    simp only [D.frzs, DRels, D.bels, Bool.and_eq_true] at h b ⊢
    obtain ⟨v, r, e, h1, h2⟩ := h
    exact ⟨v, r, e, frz_rel hg d v h1 b.1, frzs_rel hg ds r h2 b.2⟩
end
theorem frzM_rel (m : MRel K W' M') : ∀ (n i : Nat) (v : V), DRel K W' (.obj i) v → D.bel mark (frzM M' mark n i) = true → DRel K (cutW W' mark) (frzM M' mark n i) v := by
  have low : ∀ (i : Nat) (v : V), DRel K W' (.obj i) v → i < mark → DRel K (cutW W' mark) (.obj i) v := fun i v h hi => by
    simp only [DRel] at h ⊢
    obtain ⟨a, e, q⟩ := h
    refine ⟨a, e, ?_⟩
    show (W'.mu.l.take mark)[i]? = some a
    rw [List.getElem?_take_of_lt hi]; exact q
  have out : ∀ (i : Nat) (a : Addr), ¬ i < mark → W'.mu.l[i]? = some a → a ∉ (cutW W' mark).mu.l := by
    intro i a hi q z
    obtain ⟨j, hj⟩ := List.getElem?_of_mem z
    have hjm : j < mark := by
      by_cases q2 : j < mark
      · exact q2
      · have : (W'.mu.l.take mark).length ≤ j := by rw [List.length_take]; omega
        have hj : (W'.mu.l.take mark)[j]? = some a := hj
        rw [List.getElem?_eq_none this] at hj; cases hj
    have hj : (W'.mu.l.take mark)[j]? = some a := hj
    rw [List.getElem?_take_of_lt hjm] at hj
    have hjl : j < W'.mu.l.length := by
      by_cases q2 : j < W'.mu.l.length
      · exact q2
      · rw [List.getElem?_eq_none (by omega)] at hj; cases hj
    have := (List.getElem?_inj hjl m.nd).mp (hj.trans q.symm)
    omega
  intro n
  induction n with
  | zero =>
    intro i v h b
    simp only [frzM, D.bel, decide_eq_true_eq] at b ⊢
    exact low i v h b
  | succ n ih =>
    intro i v h b
    simp only [frzM] at b ⊢
    by_cases hi : i < mark
    · rw [if_pos hi]; exact low i v h hi
    · rw [if_neg hi] at b ⊢
      cases e : M'[i]? with
      | none =>
        rw [e] at b
        simp only [D.bel, decide_eq_true_eq] at b
        exact absurd b hi
      | some o =>
        rw [e] at b
        cases o with
        | lst l =>
          simp only [D.bel] at b
          have h' := h
          simp only [DRel] at h' ⊢
          obtain ⟨a, rfl, q⟩ := h'
          obtain ⟨xs, eh, dr, _⟩ := m.obj i a _ q e
          exact ⟨a, xs, rfl, .inl ⟨.inl eh, .inl (out i a hi q), fun z => (m.pv a z).2 (List.mem_of_getElem? q)⟩, frzs_rel ih l xs dr b⟩
        | ins c fs =>
          simp only [D.bel] at b
          have h' := h
          simp only [DRel] at h' ⊢
          obtain ⟨a, rfl, q⟩ := h'
          obtain ⟨C, dx, xs, h1, h2, h3, h4, h5, h6, _⟩ := m.obj i a _ q e
          have key : ∀ {fs : List (Str × D)} {xs : List (Str × V)}, Paired (FRel K W') fs xs → DRels K W' (fs.map (·.2)) (xs.map (·.2)) ∧ xs = (fs.map (·.1)).zip (xs.map (·.2)) := by
            intro fs xs p
            induction p with
            | nil => exact ⟨rfl, rfl⟩
            | @cons p x fs xs r t ih =>
              refine ⟨⟨x.2, _, rfl, r.2, ih.1⟩, ?_⟩
              simp only [List.map_cons, List.zip_cons_cons, ← ih.2]
              rw [r.1]
          obtain ⟨k1, k2⟩ := key h6
          refine ⟨a, C, dx, xs.map (·.2), rfl, h1, by rw [← k2]; exact h2, ⟨.inl (out i a hi q), fun z => (m.pv a z).2 (List.mem_of_getElem? q)⟩, h4, fz_cut h5, ?_, frzs_rel ih _ _ k1 b⟩
          have : ∀ ds : List D, (D.frzs (frzM M' mark n) ds).length = ds.length := fun ds => by
            induction ds with
            | nil => rfl
            | cons d ds ih => simp only [D.frzs, List.length_cons, ih]
          rw [this, List.length_map, List.length_map]
        | dct _ l =>
          simp only [D.bel, decide_eq_true_eq] at b
          exact absurd b hi
        | dks _ l =>
          simp only [D.bel, decide_eq_true_eq] at b
          exact absurd b hi
mutual
theorem keyly_bel (n : Nat) : ∀ d : D, D.keyly d = true → D.bel n d = true
  | .non, _ => rfl
  | .bl _, _ => rfl
  | .int _, _ => rfl
  | .str _, _ => rfl
  | .tup l, h => by simp only [D.keyly] at h; simp only [D.bel]; exact keylys_bel n l h
  | .lst _, h => by simp [D.keyly] at h
  | .obj _, h => by simp [D.keyly] at h
  | .exn _ _ _, h => by simp [D.keyly] at h
  | .ins _ _ _, h => by simp [D.keyly] at h
theorem keylys_bel (n : Nat) : ∀ ds : List D, D.keylys ds = true → D.bels n ds = true
  | [], _ => rfl
  | d :: ds, h => by
    simp only [D.keylys, Bool.and_eq_true] at h
    simp only [D.bels, keyly_bel n d h.1, keylys_bel n ds h.2, Bool.and_self]
end
theorem isKey_keyly {d : D} (h : D.isKey d = true) : D.keyly d = true := by
  cases d with
  | tup l => simp only [D.isKey, Bool.and_eq_true] at h; exact h.1
  | _ => simp [D.isKey] at h
theorem KVR.lo {i : Nat} (l : Lo i W W') {p : D × D} {x : NestedKey × Addr × Value} (h : KVR K W i p x) : KVR K W' i p x := by
  obtain ⟨h1, h2, h3, ⟨v, h4, h5⟩, h6⟩ := h
  exact ⟨h1, h2, DRel.lo l _ _ (keyly_bel i _ (isKey_keyly h1)) h3, ⟨v, DRel.lo l _ _ h6 h4, h5⟩, h6⟩
theorem ORel.lo {i : Nat} (l : Lo i W W') {a : Addr} (e : W'.H a = W.H a) (k : a ∈ W'.mu.k ↔ a ∈ W.mu.k) : ∀ {o : MO}, ORel K W i a o → ORel K W' i a o
  | .lst l', ⟨xs, h1, h2, h3, h4⟩ => ⟨xs, e.trans h1, DRels.lo l l' xs h3 h2, h3, fun z => h4 (k.mp z)⟩
  | .dct _ l', ⟨xs, h1, h2, h3, h4, h5⟩ => ⟨xs, h1.lk e k, h2, h3, h4, Paired.mapP h5 fun _ _ q => q.lo l⟩
  | .dks _ l', ⟨kvs, h1, h2⟩ => ⟨kvs, h1.lk e k, Paired.mapP h2 fun _ _ q => ⟨q.1, DRel.lo l _ _ q.2.2 q.2.1, q.2.2⟩⟩
  | .ins c fs, ⟨C, dx, xs, h1, h2, h3, h4, h5, h6, h7⟩ => ⟨C, dx, xs, h1, e.trans h2, fun z => h3 (k.mp z), (l.keep dx _ h4 h5).1, (l.keep dx _ h4 h5).2, by
    have key : ∀ {fs : List (Str × D)} {xs : List (Str × V)}, Paired (FRel K W) fs xs → D.bels i (fs.map (·.2)) = true → Paired (FRel K W') fs xs := by
      intro fs xs p
      induction p with
      | nil => intro _; exact .nil
      | cons r t ih =>
        intro b
        simp only [List.map_cons, D.bels, Bool.and_eq_true] at b
        exact .cons ⟨r.1, DRel.lo l _ _ b.1 r.2⟩ (ih b.2)
    exact key h6 h7, h7⟩
theorem cut_mrel (m : MRel K W' M') : MRel K (cutW W' mark) (M'.take mark) := by
  refine ⟨by show (W'.mu.l.take mark).length = _; rw [List.length_take, List.length_take, m.len], m.nd.sublist (List.take_sublist _ _), fun i a o h1 h2 => ?_, fun a ha => ⟨(m.pv a ha).1, fun z => (m.pv a ha).2 (List.mem_of_mem_take z)⟩, m.kk⟩
  have h1 : (W'.mu.l.take mark)[i]? = some a := h1
  have hi : i < mark := by
    by_cases q2 : i < mark
    · exact q2
    · have : (W'.mu.l.take mark).length ≤ i := by rw [List.length_take]; omega
      rw [List.getElem?_eq_none this] at h1; cases h1
  rw [List.getElem?_take_of_lt hi] at h1 h2
  exact (m.obj i a o h1 h2).lo (W := W') (W' := cutW W' mark) ⟨fun j hj => by show (W'.mu.l.take mark)[j]? = _; rw [List.getElem?_take_of_lt (by omega)], fun a o h nf => ⟨h, fz_cut nf⟩⟩ rfl Iff.rfl
theorem cut_le {M : Mem} (m : MRel K W M) (l : Le W W') : Le W (cutW W' M.length) := by
  obtain ⟨t, e⟩ := l.pre
  refine ⟨⟨⟨[], ?_⟩, fun a o h nf => ⟨(l.keep a o h nf).1, fz_cut (l.keep a o h nf).2⟩⟩, l.pv, l.pvk⟩
  show W'.mu.l.take M.length = _
  rw [e, ← m.len, List.take_left, List.append_nil]
theorem fin_of {M : Mem} {keep : Bool} {d : D} {Q : VK} {xw : Ex → L2.St → Wd → Prop} (m : MRel K W M) (h : Sat ⟨K, xw, []⟩ W (fin keep M.length d M') (PV K Q)) (l : Le W W') (m' : MRel K W' M') {v : V} (dv : DRel K W' d v) : Q v W'.H := by
  unfold fin at h
  by_cases hk : keep = true
  · rw [if_pos hk] at h
    exact h W' l m' v dv
  · rw [if_neg hk] at h
    obtain ⟨b, h⟩ := sat_ite h
    exact h (cutW W' M.length) (cut_le m l) (cut_mrel m') v (frz_rel (frzM_rel m' 3) d v dv b)
theorem fields_rel {g : Nat → D} (hg : ∀ i v, DRel K W' (.obj i) v → D.bel mark (g i) = true → DRel K (cutW W' mark) (g i) v) : ∀ {fs : List (Str × D)} {vs : List (Str × V)}, Paired (FRel K W') fs vs → D.bels mark (D.frzs g (fs.map (·.2))) = true →
    Paired (FRel K (cutW W' mark)) (fs.map fun p => (p.1, D.frz g p.2)) vs
  | _, _, .nil, _ => .nil
  | _, _, .cons r t, b => by
    simp only [List.map_cons, D.frzs, D.bels, Bool.and_eq_true] at b
    exact .cons ⟨r.1, frz_rel hg _ _ r.2 b.1⟩ (fields_rel hg t b.2)
theorem finX_of {M : Mem} {x : Ex} {E : XK} (m : MRel K W M) (P : D → Mem → Wd → Prop) (h : Sat ⟨K, xwOf K E, []⟩ W (finX M.length x M') P) (l : Le W W') (m' : MRel K W' M') (s : L2.St) : xwOf K E x s W' := by
  unfold finX at h
  obtain ⟨b, h⟩ := sat_ite h
  intro cls d er
  refine h (cutW W' M.length) (cut_le m l) (cut_mrel m') cls d ⟨er.1, ?_⟩
  have er2 := er.2
  cases d with
  | none =>
    show List.map _ _ = []
    have e : x.fs = [] := er2
    rw [e]; rfl
  | some dx =>
    obtain ⟨fz, fs, e, r⟩ := er2
    exact ⟨fz_cut fz, fs, e, fields_rel (frzM_rel m' 3) r b⟩
theorem ret_of {M : Mem} {keep : Bool} {r : Res Fl} {Q : VK} {E : XK} (m : MRel K W M) (h : Sat ⟨K, xwOf K E, []⟩ W (retOf keep M.length r) (PV K Q)) : Sat K.no W r (PF ⟨K, xwOf K E, []⟩ { nx := fun _ H' => Q .non H', rt := Q }) := by
  cases r with
  | bad => exact h.elim
  | exc _ _ => exact h.elim
  | ok f M' =>
    cases f with
    | ret d => exact fun W' l m' v dv => fin_of m h l m' dv
    | next r1 => exact fun W' l m' s _ => fin_of (d := .non) m h l m' rfl
    | brk r1 => exact h.elim
    | cont r1 => exact h.elim
    | rse x r1 => exact fun W' l m' s _ => finX_of m _ h l m' s
end
theorem start_rel {K : Kb} {W : Wd} {N : List Str} {ds : List D} {vs : List V} (r : DRels K W ds vs) : SRel K W (L2.start N vs) (startE N ds) := by
  have hl := r.length
  refine ⟨by unfold L2.start startE; simp [hl], fun i d h => ?_⟩
  unfold startE at h
  have hi : i < ds.length := by
    by_cases q : i < ds.length
    · exact q
    · rw [List.getElem?_append_right (by simpa using q), List.getElem?_replicate] at h
      split at h <;> cases h
  rw [List.getElem?_append_left (by simpa using hi), List.getElem?_map] at h
  have e : ds[i]? = some d := by
    cases e : ds[i]? with
    | none => rw [e] at h; cases h
    | some x => rw [e] at h; cases h; rfl
  obtain ⟨v, ev, dv⟩ := r.get e
  refine ⟨v, ?_, dv⟩
  unfold L2.start
  rw [List.getElem?_append_left (by simpa [← hl] using hi), List.getElem?_map, ev]
  rfl

/-! ### the defs of the text -/
structure FnAt (T : Tb) (K : PySem.W.Frag) (mg : Str → Option Value) (f : Fn) : Prop where
  ex : ∃ (a : Addr) (fd : FuncData) (st : Stmt) (qual x : Str) (mt : List (Nat × Nat)), Fun K x qual st a fd ∧ FnScope f.N f.ps (defScope st) ∧ FnWh K mg f a ∧ Binds K fd f.ps [] ∧ OkSs T ⟨defScope st, f.N, fun _ => true, mt, true, true⟩ (defBody st) f.body
structure TbAt (T : Tb) (K : PySem.W.Frag) (mg : Str → Option Value) (P : Program) (w : World) : Prop where
  fns : ∀ (k : Nat) (f : Fn), T.fns[k]? = some f → FnAt T K mg f
  con : ∀ x d, T.con.lookup x = some d → ∃ u v, mg x = some u ∧ RelV v u ∧ KRel ⟨K, P, w, mg, none⟩ d v
  blt : ∀ x, x ∈ T.blt → mg x = none
  exs : ∀ c, c ∈ T.exs → ExCls K mg c
  exm : ∀ p, p ∈ T.exm → ExMat K mg p
  fld : ∀ p, p ∈ T.fld → FldAt K mg p
  kds : ∀ p, p ∈ T.kds → KdAt K w mg p
theorem all_ok {P : Program} {w : World} {K : PySem.W.Frag} {mg : Str → Option Value} {base : Heap} {T : Tb} (A : TbAt T K mg P w) : ∀ (n k : Nat) (f : Fn), T.fns[k]? = some f → ∀ (a : Addr) (fd : FuncData), (∃ (st : Stmt) (qual x : Str) (mt : List (Nat × Nat)), Fun K x qual st a fd ∧ FnScope f.N f.ps (defScope st) ∧ OkSs T ⟨defScope st, f.N, fun _ => true, mt, true, true⟩ (defBody st) f.body) →
    FnOk P w K mg base (L2.CX P w) (2 * n) a fd f.ps (spF T ⟨K, P, w, mg, none⟩ f.ps n k) := by
  intro n
  induction n with
  | zero =>
    intro k f hf a fd _
    refine ⟨fun vs H Q E h => h.1, fun A' outer s H args us vs Q E hr e0 hb hv hs => ?_⟩
    obtain ⟨_, mu, M, ds, _, _, sat⟩ := hs
    exact sat.elim
  | succ n ih =>
    rintro k f hf a fd ⟨st, qual, x, mt, F, S, ok⟩
    refine F.okX S (fun vs H Q E h => h.1) fun cdv A' outer s H vs Q E hr hsp => ?_
    obtain ⟨hl, mu, M, ds, mr, dr, sat⟩ := hsp
    refine ⟨_, ok n _ (xwOf ⟨K, P, w, mg, none⟩ E) ⟨rfl, rfl, S.nd, rfl, S.kind, rfl, (by have := hr.un; show (A'.deeper (envOfC qual (defScope st) s.heap.objs.size a cdv)).units + 200 < cLine; omega), fun _ => hr, fun _ => ⟨rfl, rfl⟩, passes_of rfl, Takes.imp (takes_of rfl rfl rfl rfl) (fun cls d σ H q => let ⟨x, mu, er, z⟩ := q; z cls d er), A.con, A.blt, A.exs, A.exm, fun k' f' hf' => ?_, A.fld, A.kds⟩, ?_⟩
    · obtain ⟨a', fd', st', qual', x', mt', F', S', m', b', ok'⟩ := (A.fns k' f' hf').ex
      exact ⟨a', fd', m', b', ih k' f' hf' a' fd' ⟨st', qual', x', mt', F', S', ok'⟩⟩
    · refine ⟨mu, M, startE f.N ds, mr, start_rel dr, ?_⟩
      simp only [callF, hf] at sat
      obtain ⟨_, sat⟩ := sat_ite sat
      exact ret_of mr sat
end RI

set_option maxHeartbeats 4000000
namespace RI
open PySem PySem.Spec PyProof.Rows L2
section
variable {T : Tb} {C : CC}
def mChain (f g : D → D → Mem → Res D) (a b c : ME) : ME := fun F r M => (a F r M).bind fun x M1 => (b F r M1).bind fun y M2 => (f x y M2).noX.bind fun z M3 => match z with
  | .bl true => (c F r M3).bind fun w M4 => (g y w M4).noX
  | .bl false => .ok (.bl false) M3
  | _ => .bad
theorem chain_of {K : Kx} {F : FT} {f g : D → D → Mem → Res D} {a b c : ME} {s : L2.St} {H : Hp} {Q : VK} (q : rdE K F (mChain f g a b c) s H Q) : tChain (rB K.b f) (rB K.b g) (rdE K F a) (rdE K F b) (rdE K F c) s H Q := by
  obtain ⟨mu, M, r, mr, sr, sat⟩ := q
  refine ⟨mu, M, r, mr, sr, sat.bind.imp fun x M1 W1 l1 m1 s1 v dv => ?_⟩
  refine ⟨W1.mu, M1, r, m1, sr.le l1, s1.bind.imp fun y M2 W2 l2 m2 s2 u du => ?_⟩
  refine ⟨W2.mu, M2, x, y, m2, DRel.le l2 x v dv, du, s2.bind.noX.imp fun z M3 W3 l3 m3 s3 zv dz => ?_⟩
  cases z with
  | bl k =>
    cases (show zv = _ from dz)
    refine ⟨k, rfl, ?_⟩
    cases k with
    | true =>
      refine iteT ⟨W3.mu, M3, r, m3, sr.le ((l1.trans l2).trans l3), s3.bind.imp fun w M4 W4 l4 m4 s4 wv dw => ?_⟩
      exact ⟨W4.mu, M4, y, w, m4, DRel.le (l3.trans l4) y u du, dw, s4.noX⟩
    | false => exact iteF (Sat.ok (show Sat _ _ (Res.ok (D.bl false) M3) _ from s3) m3 _ rfl)
  | _ => exact s3.elim
theorem ok_chain {a b c : Expr} {op op' : CmpOp} {pos : Pos} {f g : D → D → Mem → Res D} {ma mb mc : ME} (ho : ∀ n X wx, CxOk T n C X wx → OpR X (compareOp op) (rB (kb X) f)) (ho' : ∀ n X wx, CxOk T n C X wx → OpR X (compareOp op') (rB (kb X) g)) (ha : OkE T C a ma) (hb : OkE T C b mb) (hc : OkE T C c mc) (hm : lastMarks [op, op'] [b, c] = false) : OkE T C (.Compare a [op, op'] [b, c] pos) (mChain f g ma mb mc) := by
  intro n X wx h
  exact PE.of (pe_chain (ho n X wx h) (ho' n X wx h) (ha n X wx h) (hb n X wx h) (hc n X wx h) hm) fun s H Q q => chain_of q
theorem ok_tchain {a b c : Expr} {op op' : CmpOp} {pos : Pos} {f g : D → D → Mem → Res D} {ma mb mc : ME} (ho : ∀ n X wx, CxOk T n C X wx → OpR X (compareOp op) (rB (kb X) f)) (ho' : ∀ n X wx, CxOk T n C X wx → OpR X (compareOp op') (rB (kb X) g)) (ha : OkE T C a ma) (hb : OkE T C b mb) (hc : OkE T C c mc) (hm : lastMarks [op, op'] [b, c] = false) : OkT T C (.Compare a [op, op'] [b, c] pos) (mTB (mChain f g ma mb mc)) := by
  intro n X wx h
  refine PT.of (pt_chain (ho n X wx h) (ho' n X wx h) (ha n X wx h) (hb n X wx h) (hc n X wx h) hm) fun s H Q q => ?_
  obtain ⟨mu, M, r, mr, sr, sat⟩ := tB_of q
  exact chain_of ⟨mu, M, r, mr, sr, sat⟩
/-- - n, written -/
def mNeg (m : ME) : ME := fun F r M => (m F r M).bind fun d M1 => match d with
  | .int i => .ok (.int (-i)) M1
  | _ => .bad
theorem ok_neg {a : Expr} {pos : Pos} {m : ME} (h : OkE T C a m) : OkE T C (.UnaryOp .USub a pos) (mNeg m) := by
  intro n X wx q
  refine PE.of (pe_un un_neg (h n X wx q)) fun s H Q w => ?_
  obtain ⟨mu, M, r, mr, sr, sat⟩ := w
  refine ⟨mu, M, r, mr, sr, sat.bind.imp fun d M1 W1 l1 m1 s1 v dv => ?_⟩
  cases d with
  | int i => cases (show v = _ from dv); exact ⟨i, rfl, s1.ok m1 _ rfl⟩
  | _ => exact s1.elim
theorem swap_none {tg e : Expr} {env : Env} (h : (match e with | .Tuple .. => false | _ => true) = true) : swappedStores [tg] e env = pure none := by
  cases e <;> first | (cases tg <;> rfl) | cases h
theorem swap_none_name {x : Str} {p : Pos} {e : Expr} {env : Env} : swappedStores [.Name x p] e env = pure none := by
  cases e <;> rfl
theorem swap_none_sub {a b : Expr} {p : Pos} {e : Expr} {env : Env} : swappedStores [.Subscript a b p] e env = pure none := by
  cases e <;> rfl
def swNames (sc : Scope) (ts : List Expr) : List Str := ts.filterMap fun
  | .Name id pos => if sc.names.lookup id == some .local && pos.line == ((ts.head?.map (·.pos.line)).getD 0) then some id else none
  | _ => none
def swNone (sc : Scope) (ts vs : List Expr) : Bool := !(ts.length == 2 || ts.length == 3) || vs.length != ts.length || (swNames sc ts).length != ts.length || (swNames sc ts).eraseDups.length != (swNames sc ts).length || vs.all (foldedForSure 8)
theorem star_any {vs : List Expr} (hv : vs.all noStar = true) : (vs.any fun | .Starred .. => true | _ => false) = false := by
  rw [List.any_eq_false]
  intro e he
  have := List.all_eq_true.mp hv e he
  cases e <;> first | (simp; done) | cases this
theorem swap_of {ts vs : List Expr} {kt k2 : Nat} {pt pt2 : Pos} {env : Env} {sc : Scope} (hsc : env.scope = sc) (hk : sc.kind = .function) (hv : vs.all noStar = true) (hn : swNone sc ts vs = true) : swappedStores [.Tuple ts kt pt] (.Tuple vs k2 pt2) env = pure none := by
  subst hsc
  have hb' : env.blockKind = .function := by unfold Env.blockKind; rw [hk]; rfl
  have hs := star_any hv
  unfold swappedStores
  have en : (ts.filterMap fun
    | .Name id pos => if env.kindOf id == some .local && pos.line == ((ts.head?.map (·.pos.line)).getD 0) then some id else none
    | _ => none) = swNames env.scope ts := rfl
  simp only [hb', en, hs]
  simp only [swNone, Bool.or_eq_true] at hn
  split
  · rfl
  · split
    · rfl
    · split
      · rfl
      · split
        · rfl
        · rename_i h1 _ h2 h3
          exfalso
          have h2' : ¬ ((swNames env.scope ts).length != ts.length || (swNames env.scope ts).eraseDups.length != (swNames env.scope ts).length) = true := h2
          clear h2 en
          simp only [Bool.or_eq_true, not_or] at h1 h2'
          rcases hn with (((h | h) | h) | h) | h
          · exact h1.1.1 h
          · exact h1.1.2 h
          · exact h2'.1 h
          · exact h2'.2 h
          · exact h3 h
def swYes (sc : Scope) (ts vs : List Expr) : Bool := !(!(ts.length == 2 || ts.length == 3) || vs.length != ts.length) && !((swNames sc ts).length != ts.length || (swNames sc ts).eraseDups.length != (swNames sc ts).length) && !vs.all (foldedForSure 8) && !vs.all (constantsAlone 8)
theorem swap_yes {ts vs : List Expr} {kt k2 : Nat} {pt pt2 : Pos} {env : Env} {sc : Scope} (hsc : env.scope = sc) (hk : sc.kind = .function) (hv : vs.all noStar = true) (hn : swYes sc ts vs = true) : swappedStores [.Tuple ts kt pt] (.Tuple vs k2 pt2) env = pure (some (swNames sc ts)) := by
  subst hsc
  have hb' : env.blockKind = .function := by unfold Env.blockKind; rw [hk]; rfl
  have hs := star_any hv
  simp only [swYes, Bool.and_eq_true, Bool.not_eq_true'] at hn
  obtain ⟨⟨⟨h1, h2⟩, h3⟩, h4⟩ := hn
  unfold swappedStores
  simp only [hb']
  split
  · rename_i h
    rw [h1] at h
    simp at h
  · split
    · rename_i h
      exfalso
      obtain ⟨e, he, h⟩ := List.any_eq_true.mp h
      have := List.all_eq_true.mp hv e he
      cases e <;> first | (cases h; done) | cases this
    · split
      · rename_i h
        have h : ((swNames env.scope ts).length != ts.length || (swNames env.scope ts).eraseDups.length != (swNames env.scope ts).length) = true := h
        rw [h2] at h; cases h
      · split
        · rename_i h; rw [h3] at h; cases h
        · split
          · rename_i h; rw [h4] at h; cases h
          · rfl
/-- a, b, c = x, y, z -/
def mPar3 (i j l : Nat) (ms : MA) : MS := fun F r M => (ms F r M).toS r fun ds M1 => match ds with
  | [u, v, w] => .ok (.next (((r.set i (some u)).set j (some v)).set l (some w))) M1
  | _ => .bad
theorem rels3 {K : Kb} {W : Wd} {d e f : D} {xs : List V} (h : DRels K W [d, e, f] xs) : ∃ v u w, xs = [v, u, w] ∧ DRel K W d v ∧ DRel K W e u ∧ DRel K W f w := by
  simp only [DRels] at h
  obtain ⟨v, r, rfl, h1, u, r', rfl, h2, w, r'', rfl, h3, rfl⟩ := h
  exact ⟨v, u, w, rfl, h1, h2, h3⟩
theorem ok_par3 (hq : C.calm = true) {i j l : Nat} {x y z : Str} {a b c : Expr} {ms : MA} {px py pz pt pos : Pos} {kt k2 pt2} (hi : C.N[i]? = some x) (hj : C.N[j]? = some y) (hl : C.N[l]? = some z) (hij : i ≠ j) (hil : i ≠ l) (hjl : j ≠ l)
    (hx : C.sc.names.lookup x = some .local) (hy : C.sc.names.lookup y = some .local) (hz : C.sc.names.lookup z = some .local) (ha : OkA T C [a, b, c] ms)
    (hw : ∀ env : Env, env.scope = C.sc → swappedStores [.Tuple [.Name x px, .Name y py, .Name z pz] kt pt] (.Tuple [a, b, c] k2 pt2) env = pure (some [x, y, z])) :
    OkS T C (.Assign [.Tuple [.Name x px, .Name y py, .Name z pz] kt pt] (.Tuple [a, b, c] k2 pt2) pos) (mPar3 i j l ms) := by
  intro n X wx h
  refine PS.of (ps_par3 (h.calm.trans hq) h.nd (by rw [h.N]; exact hi) (by rw [h.N]; exact hj) (by rw [h.N]; exact hl) hij hil hjl (by rw [h.sc]; exact hx) (by rw [h.sc]; exact hy) (by rw [h.sc]; exact hz) (ha n X wx h) (hw X.env h.sc) (by rfl)) fun Dn s H q => ?_
  obtain ⟨mu, M, r, mr, sr, sat⟩ := q
  refine ⟨mu, M, r, mr, sr, (Sat.toS sat sr).imp fun ds M1 W1 l1 m1 s1 vs dvs => ?_⟩
  split at s1
  · obtain ⟨v, u, w, rfl, d1, d2, d3⟩ := rels3 dvs
    exact ⟨v, u, w, rfl, s1.ok m1 _ ((((sr.le l1).set d1 i).set d2 j).set d3 l)⟩
  · exact s1.elim
end

/-- no fused store -/
def swF (sc : Scope) (tg e : Expr) : Bool := match e with
  | .ListComp _ _ s p => (match tg with | .Name t q => decide (sc.names.lookup t ≠ some .local) || !(q.line == p.line) || (s.names.any fun (n, k) => n == t && (k == .local || k == .cell)) | _ => true)
  | .DictComp _ _ _ s p => (match tg with | .Name t q => decide (sc.names.lookup t ≠ some .local) || !(q.line == p.line) || (s.names.any fun (n, k) => n == t && (k == .local || k == .cell)) | _ => true)
  | e => noComp e
theorem swF_ok {sc : Scope} {tg e : Expr} {l : Nat} {env : Env} (hs : env.scope = sc) (h : swF sc tg e = true) : swapsWith e (some tg) l env = pure false := by
  have key : ∀ (s : Scope) (t : Str) (q p : Pos), (decide (sc.names.lookup t ≠ some .local) || !(q.line == p.line) || (s.names.any fun (n, k) => n == t && (k == .local || k == .cell))) = true → (env.blockKind == .function && env.kindOf t == some .local && q.line == p.line && !(s.names.any fun (n, k) => n == t && (k == .local || k == .cell))) = false := by
    intro s t q p h
    simp only [Bool.or_eq_true, decide_eq_true_eq, Bool.not_eq_true'] at h
    rcases h with (h | h) | h
    · have : (env.kindOf t == some .local) = false := by
        show (env.scope.names.lookup t == some .local) = false
        rw [hs]
        exact beq_eq_false_iff_ne.mpr h
      rw [this, Bool.and_false]; rfl
    · rw [h, Bool.and_false]; rfl
    · rw [h, Bool.not_true, Bool.and_false]
  cases e with
  | ListComp a b s p =>
    cases tg with
    | Name t q => exact congrArg pure (key s t q p h)
    | _ => rfl
  | DictComp a b c s p =>
    cases tg with
    | Name t q => exact congrArg pure (key s t q p h)
    | _ => rfl
  | _ => first | exact noComp_sw h | cases h
section
variable {T : Tb} {C : CC}
theorem ok_setW {i : Nat} {x : Str} {e : Expr} {pos pos'} {m : ME} (hn : swF C.sc (.Name x pos') e = true) (hi : C.N[i]? = some x) (hl : C.sc.names.lookup x = some .local ∨ (C.sc.names.lookup x = some .cell ∧ C.fn x = true)) (he : OkE T C e m) : OkS T C (.Assign [.Name x pos'] e pos) (mAsg m (gN i)) := by
  intro n X wx h
  obtain ⟨h1, h2⟩ := loc_of h hl
  refine PS.of (ps_set h.nd (by rw [h.N]; exact hi) h1 (he n X wx h) (swF_ok h.sc hn) h2) fun Dn s H q => ?_
  obtain ⟨mu, M, r, mr, sr, sat⟩ := asg_of q
  refine ⟨mu, M, r, mr, sr, sat.imp fun d M1 W1 l1 m1 s1 v dv => ?_⟩
  obtain ⟨mu2, M2, r2, mr2, sr2, d2, dv2, sat2⟩ := s1 v dv
  exact sat2.ok mr2 _ (sr2.set dv2 i)
theorem ok_asgW {tg e : Expr} {pos} {m : ME} {g : MG} (hn : swF C.sc tg e = true) (hw : ∀ env : Env, env.scope = C.sc → swappedStores [tg] e env = pure none) (hs : noStarT tg = true) (he : OkE T C e m) (hg : OkG T C tg g) : OkS T C (.Assign [tg] e pos) (mAsg m g) := by
  intro n X wx h
  exact PS.of (ps_asg (he n X wx h) (hg n X wx h) (by show swapsWith e (some tg) _ _ = _; exact swF_ok h.sc hn) (hw X.env h.sc) (by rw [noStarT_each hs]; rfl)) fun _ _ _ q => asg_of q
end
theorem swaps_attr {o e : Expr} {f : Str} {p : Pos} {l : Nat} {env : Env} (h : noComp e = true) : swapsWith e (some (.Attribute o f p)) l env = pure false := by
  cases e <;> first | rfl | cases h
/-! ### the certifying compile -/
section
variable (T : Tb)
instance visDec (sc : Scope) (x : Str) : Decidable (Vis sc x) := inferInstanceAs (Decidable (_ ∨ _ ∨ _))
abbrev RE (C : CC) (e : Expr) := Option { m : ME // OkE T C e m }
abbrev RT (C : CC) (e : Expr) := Option { m : MT // OkT T C e m }
def ixOf : (N : List Str) → (x : Str) → Option { i : Nat // N[i]? = some x }
  | [], _ => none
  | y :: ys, x => if h : y = x then some ⟨0, by simp [h]⟩ else match ixOf ys x with
    | some ⟨i, p⟩ => some ⟨i + 1, by simpa using p⟩
    | none => none
def fnIx : (fs : List Fn) → (x : Str) → Option { k : Nat // ∃ f, fs[k]? = some f ∧ f.name = x ∧ f.wh = .glob }
  | [], _ => none
  | f :: fs, x => if h : f.name = x ∧ f.wh = .glob then some ⟨0, f, rfl, h⟩ else match fnIx fs x with
    | some ⟨i, p⟩ => some ⟨i + 1, by simpa using p⟩
    | none => none
def initIx : (fs : List Fn) → (x : Str) → Option { k : Nat // ∃ f, fs[k]? = some f ∧ f.wh = .init x }
  | [], _ => none
  | f :: fs, x => if h : f.wh = .init x then some ⟨0, f, rfl, h⟩ else match initIx fs x with
    | some ⟨i, p⟩ => some ⟨i + 1, by simpa using p⟩
    | none => none
def propIx : (fs : List Fn) → (x : Str) → Option { q : Nat × Str // ∃ f, fs[q.1]? = some f ∧ f.name = x ∧ f.wh = .prop q.2 }
  | [], _ => none
  | f :: fs, x => match hw : f.wh with
    | .prop c => if h : f.name = x then some ⟨(0, c), f, rfl, h, hw⟩ else (match propIx fs x with
      | some ⟨(i, c'), p⟩ => some ⟨(i + 1, c'), by simpa using p⟩
      | none => none)
    | _ => match propIx fs x with
      | some ⟨(i, c'), p⟩ => some ⟨(i + 1, c'), by simpa using p⟩
      | none => none
def locOf (C : CC) (x : Str) : Option (PLift (C.sc.names.lookup x = some .local ∨ (C.sc.names.lookup x = some .cell ∧ C.fn x = true))) :=
  if h : C.sc.names.lookup x = some .local then some ⟨.inl h⟩ else
    if h : C.sc.names.lookup x = some .cell ∧ C.fn x = true then some ⟨.inr h⟩ else none
def opOf (C : CC) : (op : Operator) → Option { f : D → D → Mem → Res D // ∀ n X wx, CxOk T n C X wx → OpR X (binaryOp op) (rB (kb X) f) }
  | .Add => some ⟨addD, fun _ _ _ _ => or_add⟩
  | .Sub => some ⟨subD, fun _ _ _ _ => or_sub⟩
  | .Mult => some ⟨mulT, fun _ _ _ _ => or_mulT⟩
  | .FloorDiv => some ⟨fdivD, fun _ _ _ _ => or_fdiv⟩
  | .Mod => some ⟨modD, fun _ _ _ _ => or_mod⟩
  | .Pow => some ⟨powD, fun _ _ _ _ => or_pow⟩
  | _ => none
def cmpOf (C : CC) : (op : CmpOp) → Option { f : D → D → Mem → Res D // ∀ n X wx, CxOk T n C X wx → OpR X (compareOp op) (rB (kb X) f) }
  | .Eq => some ⟨eqD false, fun _ _ _ h => or_eq (by have := h.un; omega)⟩
  | .NotEq => some ⟨eqD true, fun _ _ _ h => or_ne (by have := h.un; omega)⟩
  | .Lt => some ⟨ltD, fun _ _ _ h => or_lt (by have := h.un; omega)⟩
  | .LtE => some ⟨leD, fun _ _ _ h => or_le (by have := h.un; omega)⟩
  | .Gt => some ⟨gtD, fun _ _ _ h => or_gt (by have := h.un; omega)⟩
  | .GtE => some ⟨geD, fun _ _ _ h => or_ge (by have := h.un; omega)⟩
  | .Is => some ⟨isD false, fun _ _ _ _ => or_is⟩
  | .IsNot => some ⟨isD true, fun _ _ _ _ => or_isnot⟩
  | .In => some ⟨inD false, fun _ _ _ h => or_in (by have := h.un; omega)⟩
  | .NotIn => some ⟨inD true, fun _ _ _ h => or_notin (by have := h.un; omega)⟩
def tyOf (y : Str) : Option { t : Ty // y = (t.nm : Str) ∧ bootBuiltins y = some (.type t.nm) } :=
  if h : y = "int" then some ⟨.int, h, by rw [h]; exact boot_int⟩
  else if h : y = "bool" then some ⟨.bool, h, by rw [h]; exact boot_bool⟩
  else if h : y = "str" then some ⟨.str, h, by rw [h]; exact boot_str⟩
  else if h : y = "tuple" then some ⟨.tuple, h, by rw [h]; exact boot_tuple⟩
  else if h : y = "list" then some ⟨.list, h, by rw [h]; exact boot_list⟩
  else if h : y = "dict" then some ⟨.dict, h, by rw [h]; exact boot_dict⟩
  else none
def ownOf (N : List Str) (scope : Scope) : List (Str × Nat) := scope.names.filterMap fun (n, k) => if (k == .local || k == .cell) then (match ixOf N n with | some ⟨i, _⟩ => some (n, i) | none => none) else none
def kdC (C : CC) (op : CmpOp) : (b : Expr) → Option { q : List (List Nat × D) × Bool // ∃ x p, b = .Name x p ∧ (x, q.1) ∈ T.kds ∧ C.sc.names.lookup x = some .globalImplicit ∧ (x == ("__debug__" : Str)) = false ∧ (op = if q.2 then .NotIn else .In) ∧ behindInMarks op (.Name x p) = false }
  | .Name x p => match hl : T.kds.find? (fun q => decide (q.1 = x)) with
    | some (y, l) => if h : C.sc.names.lookup x = some .globalImplicit ∧ (x == ("__debug__" : Str)) = false ∧ behindInMarks op (.Name x p) = false then
        (if h1 : op = .In then some ⟨(l, false), x, p, rfl, by
            have e := List.find?_some hl
            have e : y = x := by simpa using e
            exact e ▸ List.mem_of_find?_eq_some hl, h.1, h.2.1, h1, h.2.2⟩
        else if h1 : op = .NotIn then some ⟨(l, true), x, p, rfl, by
            have e := List.find?_some hl
            have e : y = x := by simpa using e
            exact e ▸ List.mem_of_find?_eq_some hl, h.1, h.2.1, h1, h.2.2⟩ else none) else none
    | none => none
  | _ => none
def kdI (C : CC) : (b : Expr) → Option { l : List (List Nat × D) // ∃ x p, b = .Name x p ∧ (x, l) ∈ T.kds ∧ C.sc.names.lookup x = some .globalImplicit ∧ (x == ("__debug__" : Str)) = false }
  | .Name x p => match hl : T.kds.find? (fun q => decide (q.1 = x)) with
    | some (y, l) => if h : C.sc.names.lookup x = some .globalImplicit ∧ (x == ("__debug__" : Str)) = false then
        some ⟨l, x, p, rfl, by
            have e := List.find?_some hl
            have e : y = x := by simpa using e
            exact e ▸ List.mem_of_find?_eq_some hl, h.1, h.2⟩ else none
    | none => none
  | _ => none
/-- the slots of a target: a name, or names -/
def tgIx (N : List Str) : Expr → List Nat
  | .Name x _ => (match ixOf N x with | some ⟨i, _⟩ => [i] | none => [])
  | .Tuple es _ _ => es.filterMap fun e => match e with
    | .Name x _ => (match ixOf N x with | some ⟨i, _⟩ => some i | none => none)
    | _ => none
  | _ => []
mutual
def cE : Nat → (C : CC) → (e : Expr) → RE T C e
  | 0, _, _ => none
  | n + 1, C, e => match e with
    | .Constant (.int i) j pos => some ⟨mC (.int i), ok_int⟩
    | .Constant (.bool i) j pos => some ⟨mC (.bl i), ok_bl⟩
    | .Constant .none j pos => some ⟨mC .non, ok_non⟩
    | .Constant (.str x) j pos => some ⟨mC (.str x.cps.toList), ok_str⟩
    | .Name x pos =>
      if hg : C.sc.names.lookup x = some .globalImplicit then
        match hc : T.con.lookup x with
        | some d => if hd : (x == ("__debug__" : Str)) = false then some ⟨mC d, ok_con hc hg hd⟩ else none
        | none => none
      else if hv : Vis C.sc x ∧ (x == ("__debug__" : Str)) = false ∧ (x == ("__classdict__" : Str)) = false then
        match ixOf C.N x with
        | some ⟨i, hi⟩ => some ⟨mVar i, ok_var hi hv.1 hv.2.1 hv.2.2⟩
        | none => none
      else none
    | .Tuple es k pos => match cAs n C es with
      | some ⟨ms, h⟩ => some ⟨mTup ms, ok_tup h⟩
      | none => none
    | .List es pos => match cAs n C es with
      | some ⟨ms, h⟩ => if C.mt.contains (pos.line, pos.col) then some ⟨mLstM ms, ok_lstM h⟩ else some ⟨mLst ms, ok_lst h⟩
      | none => none
    | .Dict (some (.Constant (.str x) j p) :: ks) vs pos => match cP n C (some (.Constant (.str x) j p) :: ks) vs with
      | some ⟨ps, h⟩ => if h15 : ps.length ≤ 15 then some ⟨mDks ps, ok_dks (by simp) h15 h⟩ else none
      | none => none
    | .Dict [] [] pos => some ⟨mDct0, ok_dct0⟩
    | .Dict [some a] [b] pos => match cE n C a, cE n C b with
      | some ⟨ma, ha⟩, some ⟨mb, hb⟩ => some ⟨mDct1 ma mb, ok_dct1 ha hb⟩
      | _, _ => none
    | .BinOp (.List es p) .Mult b pos => match cA n C es, cE n C b with
      | some ⟨ms, h, _⟩, some ⟨mb, hb⟩ => some ⟨mLMul ms mb, ok_lmul h hb⟩
      | _, _ => none
    | .BinOp a op b pos => match opOf T C op, cE n C a, cE n C b with
      | some ⟨f, hf⟩, some ⟨ma, ha⟩, some ⟨mb, hb⟩ => some ⟨mB f ma mb, ok_bin hf ha hb⟩
      | _, _, _ => none
    | .Compare a [op] [b] pos => match kdC T C op b with
      | some ⟨(l, neg), hk⟩ => (match cE n C a with
        | some ⟨ma, ha⟩ => some ⟨mInKd l neg ma, by obtain ⟨x, p, rfl, h1, h2, h3, h4, h5⟩ := hk; exact ok_inKd neg h4 h1 h2 h3 ha h5⟩
        | none => none)
      | none => match cmpOf T C op, cE n C a, cE n C b with
      | some ⟨f, hf⟩, some ⟨ma, ha⟩, some ⟨mb, hb⟩ => if hm : behindInMarks op b = false then some ⟨mB f ma mb, ok_cmp hf ha hb hm⟩ else none
      | _, _, _ => none
    | .Compare a [op, op'] [b, c] pos => match cmpOf T C op, cmpOf T C op', cE n C a, cE n C b, cE n C c with
      | some ⟨f, hf⟩, some ⟨g, hg⟩, some ⟨ma, ha⟩, some ⟨mb, hb⟩, some ⟨mc, hc⟩ => if hm : lastMarks [op, op'] [b, c] = false then some ⟨mChain f g ma mb mc, ok_chain hf hg ha hb hc hm⟩ else none
      | _, _, _, _, _ => none
    | .BoolOp op [a] pos => match cE n C a with
      | some ⟨m, h⟩ => some ⟨m, ok_one h⟩
      | none => none
    | .BoolOp .And (a :: b :: r) pos => match cE n C a, cE n C (.BoolOp .And (b :: r) pos) with
      | some ⟨m, h⟩, some ⟨m', h'⟩ => some ⟨mAndV m m', ok_andV h h'⟩
      | _, _ => none
    | .BoolOp .Or (a :: b :: r) pos => match cE n C a, cE n C (.BoolOp .Or (b :: r) pos) with
      | some ⟨m, h⟩, some ⟨m', h'⟩ => some ⟨mOrV m m', ok_orV h h'⟩
      | _, _ => none
    | .UnaryOp .Not a pos => match cE n C a with
      | some ⟨m, h⟩ => some ⟨mNotV m, ok_notV h⟩
      | none => none
    | .UnaryOp .USub a pos => match cE n C a with
      | some ⟨m, h⟩ => some ⟨mNeg m, ok_neg h⟩
      | none => none
    | .IfExp c a b pos => match cT n C c, cE n C a, cE n C b with
      | some ⟨mc, hc⟩, some ⟨ma, ha⟩, some ⟨mb, hb⟩ => some ⟨mIf mc ma mb, ok_if hc ha hb⟩
      | _, _, _ => none
    | .Subscript a (.Slice lo hi none p2) pos => match cE n C a, cO n C lo, cO n C hi with
      | some ⟨m, h⟩, some ⟨ml, hl⟩, some ⟨mh, hh⟩ => some ⟨mSl m ml mh, ok_slice h hl hh⟩
      | _, _, _ => none
    | .Subscript a b pos => match kdI T C a with
      | some ⟨l, hk⟩ => (match cE n C b with
        | some ⟨mb, hb⟩ => if hs : noSlice b = true then some ⟨mIxKd l mb, by obtain ⟨x, p, rfl, h1, h2, h3⟩ := hk; exact ok_ixKd h1 h2 h3 hs hb⟩ else none
        | none => none)
      | none => match cE n C a, cE n C b with
      | some ⟨ma, ha⟩, some ⟨mb, hb⟩ => if hs : noSlice b = true then some ⟨mB ixD ma mb, ok_ix hs ha hb⟩ else none
      | _, _ => none
    | .FormattedValue e (-1) none pos => match cE n C e with
      | some ⟨m, h⟩ => some ⟨mFmt m, ok_fmt h⟩
      | none => none
    | .JoinedStr (a :: b :: r) pos => match cJ n C (a :: b :: r) with
      | some ⟨ms, h⟩ => some ⟨mJs ms [], ok_js h⟩
      | none => none
    | .Attribute o f pos => match cE n C o with
      | some ⟨mo, ho⟩ => if hb : noSup o = true then (match propIx T.fns f with
          | some ⟨(k, c), hk⟩ => if hq : C.calm = true then some ⟨mProp c k mo, by obtain ⟨fn, h1, h2, h3⟩ := hk; exact ok_prop hq h1 h3 h2 hb ho⟩ else none
          | none => some ⟨mFld T.fld f mo, ok_fld hb ho⟩) else none
      | none => none
    | .Call (.Name x p) [] [] pos =>
      if hg : C.sc.names.lookup x = some .globalImplicit ∧ (x == ("__debug__" : Str)) = false then
        match fnIx T.fns x with
        | some ⟨k, hk⟩ => if hq : C.calm = true then some ⟨mCall k mNil, by obtain ⟨f, h1, h2, h3⟩ := hk; exact ok_call0 hq h1 h2 h3 hg.1 hg.2⟩ else none
        | none => none
      else none
    | .Call (.Name x p) [a, .Name y p2] [] pos =>
      if hx : x = "isinstance" ∧ x ∈ T.blt ∧ C.sc.names.lookup x = some .globalImplicit ∧ y ∈ T.blt ∧ C.sc.names.lookup y = some .globalImplicit ∧ y ≠ "__name__" ∧ (y == ("__debug__" : Str)) = false ∧ noStar a = true then
        match tyOf y, cE n C a with
        | some ⟨t, ht⟩, some ⟨m, h⟩ => some ⟨mIsi t m, ok_isi hx.2.1 hx.1 hx.2.2.1 hx.2.2.2.1 ht.1 ht.2 hx.2.2.2.2.1 hx.2.2.2.2.2.1 hx.2.2.2.2.2.2.1 hx.2.2.2.2.2.2.2 h⟩
        | _, _ => none
      else cCall n C x p a [.Name y p2] pos
    | .Call (.Name x p) [.Call (.Name y p2) [e1, e2] [] p3] [] pos =>
      if hx : (x = "dict" ∧ x ∈ T.blt ∧ C.sc.names.lookup x = some .globalImplicit ∧ y = "zip" ∧ y ∈ T.blt ∧ C.sc.names.lookup y = some .globalImplicit) ∧ C.calm = true ∧ noStar e1 = true ∧ noStar e2 = true then
        match cA n C [e1, e2] with
        | some ⟨ms, hm, _⟩ => some ⟨mDz ms, ok_dz hx.2.1 hx.1.1 hx.1.2.1 hx.1.2.2.1 hx.1.2.2.2.1 hx.1.2.2.2.2.1 hx.1.2.2.2.2.2 hx.2.2.1 hx.2.2.2 hm⟩
        | none => none
      else cCall n C x p (.Call (.Name y p2) [e1, e2] [] p3) [] pos
    | .Call (.Name x p) [.Call (.Name y p2) [e1] [] p3] [] pos =>
      if hx : (x = "list" ∧ x ∈ T.blt ∧ C.sc.names.lookup x = some .globalImplicit ∧ y = "range" ∧ y ∈ T.blt ∧ C.sc.names.lookup y = some .globalImplicit) ∧ C.calm = true ∧ noStar e1 = true then
        match cE n C e1 with
        | some ⟨m, hm⟩ => some ⟨mLRg (C.mt.contains (pos.line, pos.col)) m, ok_lrg hx.2.1 hx.1.1 hx.1.2.1 hx.1.2.2.1 hx.1.2.2.2.1 hx.1.2.2.2.2.1 hx.1.2.2.2.2.2 hx.2.2 hm⟩
        | none => none
      else if hx : (x = "sorted" ∧ x ∈ T.blt ∧ C.sc.names.lookup x = some .globalImplicit ∧ y = "set" ∧ y ∈ T.blt ∧ C.sc.names.lookup y = some .globalImplicit) ∧ C.calm = true ∧ noStar e1 = true then
        match cE n C e1 with
        | some ⟨m, hm⟩ => some ⟨mSrS m, ok_srs hx.2.1 hx.1.1 hx.1.2.1 hx.1.2.2.1 hx.1.2.2.2.1 hx.1.2.2.2.2.1 hx.1.2.2.2.2.2 hx.2.2 hm⟩
        | none => none
      else cCall n C x p (.Call (.Name y p2) [e1] [] p3) [] pos
    | .Call (.Name x p) (a :: es) [] pos => cCall n C x p a es pos
    | .Call (.Attribute o name apos) [a] [] cpos =>
      if h : name = "append" ∧ noSuper o = true ∧ (apos.endLine == cpos.line) = true ∧ noStar a = true then
        match cE n C o, cE n C a with
        | some ⟨mo, ho⟩, some ⟨ma, ha⟩ => some ⟨mApp mo ma, ok_append h.1 h.2.1 h.2.2.1 h.2.2.2 ho ha⟩
        | _, _ => none
      else none
    | .Call (.Attribute o name apos) [a, b] [] cpos =>
      if h : name = "get" ∧ noSup o = true ∧ (apos.endLine == cpos.line) = true ∧ noStar a = true ∧ noStar b = true then
        match cE n C o, cE n C a, cE n C b with
        | some ⟨mo, ho⟩, some ⟨ma, ha⟩, some ⟨mb, hb⟩ => some ⟨mGet2 mo ma mb, ok_get2 h.1 h.2.1 h.2.2.1 h.2.2.2.1 h.2.2.2.2 ho ha hb⟩
        | _, _, _ => none
      else none
    | .ListComp elt [⟨tg, iter, ifs, 0⟩, ⟨tg1, iter1, ifs1, 0⟩] scope pos =>
      if h : (noSet iter = true ∧ noSet iter1 = true) ∧ blkC C.N C.sc scope (ownOf C.N scope) = true ∧ C.calm = true ∧ ∀ i ∈ tgIx C.N tg1, i ∈ (ownOf C.N scope).map (·.2) then
        match cI n C tg iter, cGc n (C.blk scope) ((ownOf C.N scope).map (·.2)) tg, cTs n (C.blk scope) ifs, cI n (C.blk scope) tg1 iter1, cGc n (C.blk scope) (tgIx C.N tg1) tg1, cTs n (C.blk scope) ifs1, cE n (C.blk scope) elt with
        | some ⟨mi, hi⟩, some ⟨g, hg⟩, some ⟨mt, ht⟩, some ⟨mi1, hi1⟩, some ⟨g1, hg1⟩, some ⟨mt1, ht1⟩, some ⟨me, he⟩ => some ⟨mLc2 mi g mt mi1 g1 mt1 me ((ownOf C.N scope).map (·.2)) (tgIx C.N tg1), ok_lc2 h.2.2.1 rfl h.2.2.2 h.1.1 h.1.2 h.2.1 hi hg ht hi1 hg1 ht1 he⟩
        | _, _, _, _, _, _, _ => none
      else none
    | .DictComp kx vx [⟨tg, iter, ifs, 0⟩] scope pos =>
      if h : noSet iter = true ∧ blkC C.N C.sc scope (ownOf C.N scope) = true ∧ C.calm = true then
        match cI n C tg iter, cGc n (C.blk scope) ((ownOf C.N scope).map (·.2)) tg, cTs n (C.blk scope) ifs, cE n (C.blk scope) kx, cE n (C.blk scope) vx with
        | some ⟨mi, hi⟩, some ⟨g, hg⟩, some ⟨mt, ht⟩, some ⟨mk, hk⟩, some ⟨mv, hv⟩ => some ⟨mDc mi g mt mk mv ((ownOf C.N scope).map (·.2)), ok_dc h.2.2 rfl h.1 h.2.1 hi hg ht hk hv⟩
        | _, _, _, _, _ => none
      else none
    | .ListComp elt [⟨tg, iter, ifs, 0⟩] scope pos =>
      if h : noSet iter = true ∧ blkC C.N C.sc scope (ownOf C.N scope) = true ∧ C.calm = true then
        match cI n C tg iter, cGc n (C.blk scope) ((ownOf C.N scope).map (·.2)) tg, cTs n (C.blk scope) ifs, cE n (C.blk scope) elt with
        | some ⟨mi, hi⟩, some ⟨g, hg⟩, some ⟨mt, ht⟩, some ⟨me, he⟩ => some ⟨mLc mi g mt me ((ownOf C.N scope).map (·.2)), ok_lc h.2.2 rfl h.1 h.2.1 hi hg ht he⟩
        | _, _, _, _ => none
      else none
    | _ => none
def cCall : Nat → (C : CC) → (x : Str) → (p : Pos) → (a : Expr) → (es : List Expr) → (pos : Pos) → RE T C (.Call (.Name x p) (a :: es) [] pos)
  | 0, _, _, _, _, _, _ => none
  | n + 1, C, x, p, a, es, pos =>
    if hg : C.sc.names.lookup x = some .globalImplicit ∧ (x == ("__debug__" : Str)) = false ∧ x ≠ "__name__" then
      match cA n C (a :: es) with
      | none => none
      | some ⟨ms, hm, hs⟩ =>
        match fnIx T.fns x with
        | some ⟨k, hk⟩ => if hq : C.calm = true then some ⟨mCall k ms, by obtain ⟨f, h1, h2, h3⟩ := hk; exact ok_call hq h1 h2 h3 hg.1 hg.2.1 hs hm⟩ else none
        | none => match initIx T.fns x with
        | some ⟨k, hk⟩ => if hq : C.calm = true then some ⟨mMake x k ms, by obtain ⟨f, h1, h2⟩ := hk; exact ok_make hq h1 h2 hg.1 hg.2.1 hs hm⟩ else none
        | none =>
          if hb : x ∈ T.blt then
            if h : x = "len" then some ⟨mBl lenX ms, ok_blt (id := "len") (fun _ _ _ _ => cr_lenX) hb hg.1 (by rw [h]; exact PySem.boot_len) hg.2.2 hg.2.1 hs hm⟩
            else if h : x = "int" then some ⟨mBl toIntD ms, ok_bty (id := "int") (fun _ _ _ _ => cr_int) hb hg.1 (by rw [h]; exact boot_int) hg.2.2 hg.2.1 hs hm⟩
            else if h : x = "tuple" then some ⟨mBl toTupD ms, ok_bty (id := "tuple") (fun _ _ _ _ => cr_tuple) hb hg.1 (by rw [h]; exact boot_tuple) hg.2.2 hg.2.1 hs hm⟩
            else if h : x = "list" ∧ C.calm = true then some ⟨mBl (toLstX (C.mt.contains (pos.line, pos.col))) ms, ok_bty (id := "list") (fun _ _ _ q => cr_listX (q.calm.trans h.2)) hb hg.1 (by rw [h.1]; exact boot_list) hg.2.2 hg.2.1 hs hm⟩
            else if h : x = "max" ∧ C.calm = true then some ⟨mBl maxLD ms, ok_blt (id := "max") (fun _ _ _ q => cr_maxL (q.calm.trans h.2) (by have := q.un; omega)) hb hg.1 (by rw [h.1]; exact boot_max) hg.2.2 hg.2.1 hs hm⟩
            else if h : x = "min" ∧ C.calm = true then some ⟨mBl minLD ms, ok_blt (id := "min") (fun _ _ _ q => cr_minL (q.calm.trans h.2) (by have := q.un; omega)) hb hg.1 (by rw [h.1]; exact boot_min) hg.2.2 hg.2.1 hs hm⟩
            else if h : x = "all" ∧ C.calm = true then some ⟨mBl allD ms, ok_blt (id := "all") (fun _ _ _ q => cr_allD (q.calm.trans h.2)) hb hg.1 (by rw [h.1]; exact boot_all) hg.2.2 hg.2.1 hs hm⟩
            else if h : x = "any" ∧ C.calm = true then some ⟨mBl anyD ms, ok_blt (id := "any") (fun _ _ _ q => cr_anyD (q.calm.trans h.2)) hb hg.1 (by rw [h.1]; exact boot_any) hg.2.2 hg.2.1 hs hm⟩
            else if h : x = "sum" ∧ C.calm = true then some ⟨mBl sumD ms, ok_blt (id := "sum") (fun _ _ _ q => cr_sumD (q.calm.trans h.2)) hb hg.1 (by rw [h.1]; exact boot_sum) hg.2.2 hg.2.1 hs hm⟩
            else if h : x = "sorted" ∧ C.calm = true then some ⟨mBl srtX ms, ok_blt (id := "sorted") (fun _ _ _ q => cr_sortedX (q.calm.trans h.2) (by have := q.un; omega)) hb hg.1 (by rw [h.1]; exact boot_sorted) hg.2.2 hg.2.1 hs hm⟩
            else if h : x = "str" then some ⟨mBl toStrD ms, ok_bty (id := "str") (fun _ _ _ _ => cr_str) hb hg.1 (by rw [h]; exact boot_str) hg.2.2 hg.2.1 hs hm⟩
            else none
          else none
    else none
def cA : Nat → (C : CC) → (es : List Expr) → Option { m : MA // OkA T C es m ∧ es.all noStar = true }
  | 0, _, _ => none
  | n + 1, C, es => match es with
    | [] => some ⟨mNil, ok_anil, rfl⟩
    | e :: r => match cE n C e, cA n C r with
      | some ⟨m, h⟩, some ⟨ms, hm, hs⟩ => if hn : noStar e = true then some ⟨mCons m ms, ok_acons hn h hm, by rw [List.all_cons, hn, hs]; rfl⟩ else none
      | _, _ => none
def cP : Nat → (C : CC) → (ks : List (Option Expr)) → (vs : List Expr) → Option { ps : List (List Nat × ME) // OkP T C ks vs ps }
  | 0, _, _, _ => none
  | n + 1, C, ks, vs => match ks, vs with
    | [], [] => some ⟨[], .nil⟩
    | some (.Constant (.str x) j p) :: ks, v :: vs => match cE n C v, cP n C ks vs with
      | some ⟨m, h⟩, some ⟨ps, hm⟩ => some ⟨(x.cps.toList, m) :: ps, .cons h hm⟩
      | _, _ => none
    | _, _ => none
def cJ : Nat → (C : CC) → (es : List Expr) → Option { ms : List ME // OkJ T C es ms }
  | 0, _, _ => none
  | n + 1, C, es => match es with
    | [] => some ⟨[], .nil⟩
    | e :: r => match cE n C e, cJ n C r with
      | some ⟨m, h⟩, some ⟨ms, hm⟩ => some ⟨m :: ms, .cons h hm⟩
      | _, _ => none
def cAs : Nat → (C : CC) → (es : List Expr) → Option { m : MA // OkA T C es m }
  | 0, _, _ => none
  | n + 1, C, es => match es with
    | [] => some ⟨mNil, ok_anil⟩
    | .Starred e p :: r => match cE n C e, cAs n C r with
      | some ⟨m, h⟩, some ⟨ms, hm⟩ => some ⟨mStar m ms, ok_astar h hm⟩
      | _, _ => none
    | e :: r => match cE n C e, cAs n C r with
      | some ⟨m, h⟩, some ⟨ms, hm⟩ => if hn : noStar e = true then some ⟨mCons m ms, ok_acons hn h hm⟩ else none
      | _, _ => none
def cO : Nat → (C : CC) → (e : Option Expr) → Option { m : MO' // OkO T C e m }
  | 0, _, _ => none
  | n + 1, C, e => match e with
    | none => some ⟨mNoPart, ok_nopart⟩
    | some e => match cE n C e with
      | some ⟨m, h⟩ => some ⟨mPart m, ok_part h⟩
      | none => none
def cT : Nat → (C : CC) → (e : Expr) → RT T C e
  | 0, _, _ => none
  | n + 1, C, e => match e with
    | .Compare a [op] [b] pos => match kdC T C op b with
      | some ⟨(l, neg), hk⟩ => (match cE n C a with
        | some ⟨ma, ha⟩ => some ⟨mTB (mInKd l neg ma), by obtain ⟨x, p, rfl, h1, h2, h3, h4, h5⟩ := hk; exact ok_tinKd neg h4 h1 h2 h3 ha h5⟩
        | none => none)
      | none => match cmpOf T C op, cE n C a, cE n C b with
      | some ⟨f, hf⟩, some ⟨ma, ha⟩, some ⟨mb, hb⟩ => if hm : behindInMarks op b = false then some ⟨mTB (mB f ma mb), ok_tcmp hf ha hb hm⟩ else none
      | _, _, _ => none
    | .Compare a [op, op'] [b, c] pos => match cmpOf T C op, cmpOf T C op', cE n C a, cE n C b, cE n C c with
      | some ⟨f, hf⟩, some ⟨g, hg⟩, some ⟨ma, ha⟩, some ⟨mb, hb⟩, some ⟨mc, hc⟩ => if hm : lastMarks [op, op'] [b, c] = false then some ⟨mTB (mChain f g ma mb mc), ok_tchain hf hg ha hb hc hm⟩ else none
      | _, _, _, _, _ => none
    | .BoolOp op vs pos => match cW n C (.BoolOp op vs pos) with
      | some ⟨m, h⟩ => some ⟨m, ok_wt h⟩
      | none => none
    | .UnaryOp .Not a pos => match cT n C a with
      | some ⟨m, h⟩ => some ⟨mNot m, ok_tnot h⟩
      | none => none
    | e => if hp : plainTest e = true then (match cE n C e with
        | some ⟨m, h⟩ => some ⟨mTru m, ok_tru hp h⟩
        | none => none) else none
def cW : Nat → (C : CC) → (e : Expr) → Option { m : MT // OkW T C e m }
  | 0, _, _ => none
  | n + 1, C, e => match e with
    | .BoolOp .And [a] pos => match cT n C a with
      | some ⟨m, h⟩ => some ⟨m, ok_and1 h⟩
      | none => none
    | .BoolOp .Or [a] pos => match cT n C a with
      | some ⟨m, h⟩ => some ⟨m, ok_or1 h⟩
      | none => none
    | .BoolOp .And (a :: b :: r) pos => match cT n C a, cW n C (.BoolOp .And (b :: r) pos) with
      | some ⟨m, h⟩, some ⟨m', h'⟩ => some ⟨mAnd m m', ok_and h h'⟩
      | _, _ => none
    | .BoolOp .Or (a :: b :: r) pos => match cT n C a, cW n C (.BoolOp .Or (b :: r) pos) with
      | some ⟨m, h⟩, some ⟨m', h'⟩ => some ⟨mOr m m', ok_or h h'⟩
      | _, _ => none
    | _ => none
def cTs : Nat → (C : CC) → (es : List Expr) → Option { m : MT // OkTs T C es m }
  | 0, _, _ => none
  | n + 1, C, es => match es with
    | [] => some ⟨mYes, ok_tsnil⟩
    | [e] => match cT n C e with
      | some ⟨m, h⟩ => some ⟨m, ok_tsone h⟩
      | none => none
    | _ => none
def cI : Nat → (C : CC) → (tg e : Expr) → Option { m : MI // OkI T C tg e m }
  | 0, _, _, _ => none
  | n + 1, C, tg, e => match tg, e with
    | .Tuple elts kk tpos, .Call (.Name x p) [a] [] pos =>
      if h : x = "enumerate" ∧ x ∈ T.blt ∧ C.sc.names.lookup x = some .globalImplicit ∧ noStar a = true then
        match cA n C [a] with
        | some ⟨ms, hm, _⟩ => some ⟨mEnum ms, ok_ienum h.1 h.2.1 h.2.2.1 h.2.2.2 hm⟩
        | none => none
      else match cE n C (.Call (.Name x p) [a] [] pos) with
        | some ⟨m, h⟩ => some ⟨mSeqI m, ok_iseq h⟩
        | none => none
    | .Tuple elts kk tpos, .Call (.Name x p) [a, b] [] pos =>
      if h : x = "zip" ∧ x ∈ T.blt ∧ C.sc.names.lookup x = some .globalImplicit ∧ noStar a = true ∧ noStar b = true then
        match cA n C [a, b] with
        | some ⟨ms, hm, _⟩ => some ⟨mZip ms, ok_izip h.1 h.2.1 h.2.2.1 h.2.2.2.1 h.2.2.2.2 hm⟩
        | none => none
      else match cE n C (.Call (.Name x p) [a, b] [] pos) with
        | some ⟨m, h⟩ => some ⟨mSeqI m, ok_iseq h⟩
        | none => none
    | .Tuple elts kk tpos, .Call (.Attribute l name apos) [] [] cpos =>
      if h : name = "items" ∧ noSup l = true ∧ (apos.endLine == cpos.line) = true then
        match cE n C l with
        | some ⟨m, hm⟩ => some ⟨mDictI pairsD m, ok_iitems h.1 h.2.1 h.2.2 hm⟩
        | none => none
      else if h : name = "values" ∧ noSup l = true ∧ (apos.endLine == cpos.line) = true then
        match cE n C l with
        | some ⟨m, hm⟩ => some ⟨mDictI (fun l => l.map (·.2)) m, ok_ivalues h.1 h.2.1 h.2.2 hm⟩
        | none => none
      else none
    | tg, .Call (.Attribute l name apos) [] [] cpos =>
      if h : name = "values" ∧ noSup l = true ∧ (apos.endLine == cpos.line) = true then
        match cE n C l with
        | some ⟨m, hm⟩ => some ⟨mDictI (fun l => l.map (·.2)) m, ok_ivalues h.1 h.2.1 h.2.2 hm⟩
        | none => none
      else none
    | tg, .Call (.Name x p) [a] [] pos =>
      if h : x = "range" ∧ x ∈ T.blt ∧ C.sc.names.lookup x = some .globalImplicit ∧ noStar a = true then
        match cA n C [a] with
        | some ⟨ms, hm, _⟩ => some ⟨mRng1 ms, ok_irng1 h.1 h.2.1 h.2.2.1 h.2.2.2 hm⟩
        | none => none
      else match cE n C (.Call (.Name x p) [a] [] pos) with
        | some ⟨m, h⟩ => some ⟨mSeqI m, ok_iseq h⟩
        | none => none
    | tg, .Call (.Name x p) [a, b] [] pos =>
      if h : x = "range" ∧ x ∈ T.blt ∧ C.sc.names.lookup x = some .globalImplicit ∧ noStar a = true ∧ noStar b = true then
        match cA n C [a, b] with
        | some ⟨ms, hm, _⟩ => some ⟨mRng2 ms, ok_irng2 h.1 h.2.1 h.2.2.1 h.2.2.2.1 h.2.2.2.2 hm⟩
        | none => none
      else match cE n C (.Call (.Name x p) [a, b] [] pos) with
        | some ⟨m, h⟩ => some ⟨mSeqI m, ok_iseq h⟩
        | none => none
    | tg, .Name x pos => match cE n C (.Name x pos) with
      | some ⟨m, h⟩ => if C.mt.contains (pos.line, pos.col) then some ⟨mSeqK m, ok_iseqK h⟩ else some ⟨mSeqI m, ok_iseq h⟩
      | none => none
    | tg, e => match cE n C e with
      | some ⟨m, h⟩ => some ⟨mSeqI m, ok_iseq h⟩
      | none => none
def cGc : Nat → (C : CC) → (vs : List Nat) → (e : Expr) → Option { m : MG // OkGc T C vs e m }
  | 0, _, _, _ => none
  | n + 1, C, vs, e => match e with
    | .Name x pos => match ixOf C.N x, locOf C x with
      | some ⟨i, hi⟩, some ⟨hl⟩ => if hv : i ∈ vs then some ⟨gN i, ok_gcname hv hi hl⟩ else none
      | _, _ => none
    | .Tuple es k pos => match cGsc n C vs es with
      | some ⟨gs, h, hs⟩ => if hq : C.calm = true then some ⟨gTp es.length gs, ok_gctup hq hs rfl h⟩ else none
      | none => none
    | _ => none
def cGsc : Nat → (C : CC) → (vs : List Nat) → (es : List Expr) → Option { m : MGs // OkGsc T C vs es m ∧ es.all noStarT = true }
  | 0, _, _, _ => none
  | n + 1, C, vs, es => match es with
    | [] => some ⟨gsNil, ok_gscnil, rfl⟩
    | e :: r => match cGc n C vs e, cGsc n C vs r with
      | some ⟨g, h⟩, some ⟨gs, hg, ha⟩ => if hs : noStarT e = true then some ⟨gsCons g gs, ok_gsccons hs h hg, by rw [List.all_cons, hs, ha]; rfl⟩ else none
      | _, _ => none
end
mutual
def cG : Nat → (C : CC) → (e : Expr) → Option { m : MG // OkG T C e m }
  | 0, _, _ => none
  | n + 1, C, e => match e with
    | .Name x pos => match ixOf C.N x, locOf C x with
      | some ⟨i, hi⟩, some ⟨hl⟩ => some ⟨gN i, ok_gname hi hl⟩
      | _, _ => none
    | .Tuple es k pos => match cGs n C es with
      | some ⟨gs, h, hs⟩ => if hq : C.calm = true then some ⟨gTp es.length gs, ok_gtup hq hs rfl h⟩ else none
      | none => none
    | .Subscript o i pos => match cE T n C o, cE T n C i with
      | some ⟨mo, ho⟩, some ⟨mi, hi⟩ => if hs : noSlice i = true then some ⟨gSb mo mi, ok_gsub hs ho hi⟩ else none
      | _, _ => none
    | _ => none
def cGs : Nat → (C : CC) → (es : List Expr) → Option { m : MGs // OkGs T C es m ∧ es.all noStarT = true }
  | 0, _, _ => none
  | n + 1, C, es => match es with
    | [] => some ⟨gsNil, ok_gsnil, rfl⟩
    | e :: r => match cG n C e, cGs n C r with
      | some ⟨g, h⟩, some ⟨gs, hg, ha⟩ => if hs : noStarT e = true then some ⟨gsCons g gs, ok_gscons hs h hg, by rw [List.all_cons, hs, ha]; rfl⟩ else none
      | _, _ => none
end
def isTup : Expr → Bool
  | .Tuple .. => false
  | _ => true
theorem isTup_swap {tg e : Expr} {env : Env} (h : isTup e = true) : swappedStores [tg] e env = pure none := by
  cases e <;> first | (cases tg <;> rfl) | cases h
mutual
def cS : Nat → (C : CC) → (st : Stmt) → Option { m : MS // OkS T C st m }
  | 0, _, _ => none
  | n + 1, C, st => match st with
    | .Pass pos => some ⟨mSkip, ok_pass⟩
    | .Break pos => some ⟨mBreak, ok_break⟩
    | .Continue pos => some ⟨mCont, ok_cont⟩
    | .Raise (some (.Call (.Name x p) [] [] p1)) none p2 =>
      if h : C.calm = true ∧ x ∈ T.exs ∧ C.sc.names.lookup x = some .globalImplicit ∧ (x == ("__debug__" : Str)) = false then some ⟨mRse x, ok_raise h.1 h.2.1 h.2.2.1 h.2.2.2⟩ else some ⟨mNever, ok_never⟩
    | .Raise a b pos => some ⟨mNever, ok_never⟩
    | .Try body (h0 :: hds) [] [] pos => match cSs n C body, cH n C (h0 :: hds) with
      | some ⟨mb, hb⟩, some ⟨hs, hh⟩ => if h : C.calm = true ∧ C.top = true ∧ (∀ p ∈ hs.map (·.1), p ∈ T.exm.map (fun q => q.2.1)) then some ⟨mTry T.exm mb hs, ok_try h.1 h.2.1 hb hh (fun p hp => by
          have := h.2.2 p.1 (List.mem_map.mpr ⟨p, hp, rfl⟩)
          obtain ⟨q, h1, h2⟩ := List.mem_map.mp this
          exact ⟨q, h1, h2⟩)⟩ else none
      | _, _ => none
    | .Return none pos => some ⟨mRetN, ok_retN⟩
    | .Return (some e) pos => match cE T n C e with
      | some ⟨m, h⟩ => some ⟨mRet m, ok_ret h⟩
      | none => none
    | .Expr e pos => match cE T n C e with
      | some ⟨m, h⟩ => if hn : noComp e = true then some ⟨mDrop m, ok_expr hn h⟩ else none
      | none => none
    | .If c a b pos => match cT T n C c, cSs n C a, cSs n C b with
      | some ⟨mc, hc⟩, some ⟨ma, ha⟩, some ⟨mb, hb⟩ => some ⟨mIfS mc ma mb, ok_ifS hc ha hb⟩
      | _, _, _ => none
    | .While c b [] pos => match cT T n C c, cSs n C b with
      | some ⟨mc, hc⟩, some ⟨mb, hb⟩ => some ⟨mWhl mc mb, ok_while hc hb⟩
      | _, _ => none
    | .For tg iter b [] pos => match cI T n C tg iter, cG T n C tg, cSs n C b with
      | some ⟨mi, hi⟩, some ⟨g, hg⟩, some ⟨mb, hb⟩ => if hs : noSet iter = true ∧ C.calm = true then some ⟨mFor mi g mb, ok_for hs.2 hs.1 hi hg hb⟩ else none
      | _, _, _ => none
    | .AugAssign (.Name x p) .Add e pos => match ixOf C.N x, locOf C x, cE T n C e with
      | some ⟨i, hi⟩, some ⟨hl⟩, some ⟨m, h⟩ => some ⟨mAug i (intD (fun _ _ => true) fun i j => .int (i + j)) m, ok_aug hi hl (fun _ _ _ _ => or_iadd) h⟩
      | _, _, _ => none
    | .AugAssign (.Name x p) .Sub e pos => match ixOf C.N x, locOf C x, cE T n C e with
      | some ⟨i, hi⟩, some ⟨hl⟩, some ⟨m, h⟩ => some ⟨mAug i (intD (fun _ _ => true) fun i j => .int (i - j)) m, ok_aug hi hl (fun _ _ _ _ => or_isub) h⟩
      | _, _, _ => none
    | .Assign [.Name y py] (.ListComp elt [⟨tg, iter, ifs, 0⟩] scope pos) spos =>
      if h : (noSet iter = true ∧ blkC C.N C.sc scope (ownOf C.N scope) = true ∧ C.calm = true) ∧ C.sc.names.lookup y = some .local ∧ (py.line == pos.line) = true ∧ (scope.names.any fun (n, k) => n == y && (k == .local || k == .cell)) = false then
        match ixOf C.N y, cI T n C tg iter, cGc T n (C.blk scope) ((ownOf C.N scope).map (·.2)) tg, cTs T n (C.blk scope) ifs, cE T n (C.blk scope) elt with
        | some ⟨i, hi'⟩, some ⟨mi, hi⟩, some ⟨g, hg⟩, some ⟨mt, ht⟩, some ⟨me, he⟩ => some ⟨mAsg (mLc mi g mt me ((ownOf C.N scope).map (·.2))) (gN i), ok_setlc h.1.2.2 rfl h.1.1 h.1.2.1 hi' h.2.1 h.2.2.1 h.2.2.2 hi hg ht he⟩
        | _, _, _, _, _ => none
      else match ixOf C.N y, locOf C y, cE T n C (.ListComp elt [⟨tg, iter, ifs, 0⟩] scope pos) with
      | some ⟨i, hi⟩, some ⟨hl⟩, some ⟨m, h⟩ => if hn : swF C.sc (.Name y py) (.ListComp elt [⟨tg, iter, ifs, 0⟩] scope pos) = true then some ⟨mAsg m (gN i), ok_setW hn hi hl h⟩ else none
      | _, _, _ => none
    | .Assign [.Name x p] e pos => match ixOf C.N x, locOf C x, cE T n C e with
      | some ⟨i, hi⟩, some ⟨hl⟩, some ⟨m, h⟩ => if hn : swF C.sc (.Name x p) e = true then some ⟨mAsg m (gN i), ok_setW hn hi hl h⟩ else none
      | _, _, _ => none
    | .Assign [.Attribute o f p] e pos => match cE T n C e, cE T n C o with
      | some ⟨m, h⟩, some ⟨mo, ho⟩ => if hn : noComp e = true then some ⟨mSetF T.fld f m mo, ok_setF (fun env => swaps_attr hn) ho h⟩ else none
      | _, _ => none
    | .Assign [.Subscript o i p] e pos => match cE T n C e, cG T n C (.Subscript o i p) with
      | some ⟨m, h⟩, some ⟨g, hg⟩ => if hn : swF C.sc (.Subscript o i p) e = true then some ⟨mAsg m g, ok_asgW hn (fun env _ => swap_none_sub) rfl h hg⟩ else none
      | _, _ => none
    | .Assign [.Tuple [.Name x px, .Name y py] kt pt] (.Tuple [a, b] k2 pt2) pos =>
      match ixOf C.N x, ixOf C.N y, cA T n C [a, b] with
      | some ⟨i, hi⟩, some ⟨j, hj⟩, some ⟨ms, hm, hs⟩ =>
        if h : (i ≠ j ∧ C.calm = true) ∧ C.sc.kind = .function ∧ C.sc.names.lookup x = some .local ∧ C.sc.names.lookup y = some .local ∧ swYes C.sc [.Name x px, .Name y py] [a, b] = true ∧ swNames C.sc [.Name x px, .Name y py] = [x, y] then
          some ⟨mPar i j ms, ok_par h.1.2 hi hj h.1.1 h.2.2.1 h.2.2.2.1 hm fun env he => (swap_yes he h.2.1 hs h.2.2.2.2.1).trans (by rw [h.2.2.2.2.2])⟩
        else if h : C.sc.kind = .function ∧ swNone C.sc [.Name x px, .Name y py] [a, b] = true then
          match cG T n C (.Tuple [.Name x px, .Name y py] kt pt) with
          | some ⟨g, hg⟩ => some ⟨mAsg (mTup ms) g, ok_asg rfl (fun env he => swap_of he h.1 hs h.2) rfl (ok_tup hm) hg⟩
          | none => none
        else none
      | _, _, _ => none
    | .Assign [.Tuple [.Name x px, .Name y py, .Name z pz] kt pt] (.Tuple [a, b, c] k2 pt2) pos =>
      match ixOf C.N x, ixOf C.N y, ixOf C.N z, cA T n C [a, b, c] with
      | some ⟨i, hi⟩, some ⟨j, hj⟩, some ⟨l, hl⟩, some ⟨ms, hm, hs⟩ =>
        if h : (((i ≠ j ∧ i ≠ l) ∧ j ≠ l) ∧ C.calm = true) ∧ C.sc.kind = .function ∧ (C.sc.names.lookup x = some .local ∧ C.sc.names.lookup y = some .local ∧ C.sc.names.lookup z = some .local) ∧ swYes C.sc [.Name x px, .Name y py, .Name z pz] [a, b, c] = true ∧ swNames C.sc [.Name x px, .Name y py, .Name z pz] = [x, y, z] then
          some ⟨mPar3 i j l ms, ok_par3 h.1.2 hi hj hl h.1.1.1.1 h.1.1.1.2 h.1.1.2 h.2.2.1.1 h.2.2.1.2.1 h.2.2.1.2.2 hm fun env he => (swap_yes he h.2.1 hs h.2.2.2.1).trans (by rw [h.2.2.2.2])⟩
        else if h : C.sc.kind = .function ∧ swNone C.sc [.Name x px, .Name y py, .Name z pz] [a, b, c] = true then
          match cG T n C (.Tuple [.Name x px, .Name y py, .Name z pz] kt pt) with
          | some ⟨g, hg⟩ => some ⟨mAsg (mTup ms) g, ok_asg rfl (fun env he => swap_of he h.1 hs h.2) rfl (ok_tup hm) hg⟩
          | none => none
        else none
      | _, _, _, _ => none
    | .Assign [.Tuple ts kt pt] (.Tuple vs k2 pt2) pos => match cA T n C vs, cG T n C (.Tuple ts kt pt) with
      | some ⟨ms, hm, hs⟩, some ⟨g, hg⟩ => if h : C.sc.kind = .function ∧ swNone C.sc ts vs = true then some ⟨mAsg (mTup ms) g, ok_asg rfl (fun env he => swap_of he h.1 hs h.2) rfl (ok_tup hm) hg⟩ else none
      | _, _ => none
    | .Assign [.Tuple es kt pt] e pos => match cE T n C e, cG T n C (.Tuple es kt pt) with
      | some ⟨m, h⟩, some ⟨g, hg⟩ => if hn : noComp e = true ∧ isTup e = true then some ⟨mAsg m g, ok_asg hn.1 (fun env _ => isTup_swap hn.2) rfl h hg⟩ else none
      | _, _ => none
    | _ => none
def cSs : Nat → (C : CC) → (sts : List Stmt) → Option { m : MS // OkSs T C sts m }
  | 0, _, _ => none
  | n + 1, C, sts => match sts with
    | [] => some ⟨mSkip, ok_snil⟩
    | [s] => match cS n C s with
      | some ⟨m, h⟩ => some ⟨m, ok_sone h⟩
      | none => none
    | s :: r => match cS n C s, cSs n C r with
      | some ⟨m, h⟩, some ⟨m', h'⟩ => some ⟨mSeq m m', ok_scons h h'⟩
      | _, _ => none
def cH : Nat → (C : CC) → (hds : List ExceptHandler) → Option { hs : List (Str × MS) // OkH T C hds hs }
  | 0, _, _ => none
  | n + 1, C, hds => match hds with
    | [] => some ⟨[], .nil⟩
    | .ExceptHandler (some (.Name a np)) none (b0 :: suite) pos :: r => match cSs n C.suite (b0 :: suite), cH n C r with
      | some ⟨ms, hm⟩, some ⟨hs, hh⟩ => if h : C.sc.names.lookup a = some .globalImplicit ∧ (a == ("__debug__" : Str)) = false then some ⟨(a, ms) :: hs, .cons h.1 h.2 hm hh⟩ else none
      | _, _ => none
    | _ => none
end
theorem cSs_ok {n : Nat} {C : CC} {sts : List Stmt} {m : MS} (h : (cSs T n C sts).map Subtype.val = some m) : OkSs T C sts m := by
  cases e : cSs T n C sts with
  | none => rw [e] at h; cases h
  | some x =>
    rw [e] at h
    cases h
    exact x.2
end
end RI

set_option maxHeartbeats 4000000
namespace RI
open PySem PySem.Spec PyProof.Rows L2
theorem ints_rel {K : Kb} {W : Wd} : ∀ ns : List Int, DRels K W (ns.map D.int) (ns.map V.int)
  | [] => rfl
  | n :: ns => ⟨.int n, _, rfl, rfl, ints_rel ns⟩
theorem sp_law {T : Tb} {K : Kb} {n k : Nat} {x : Str} {H : Hp} {a : Addr} {ns : List Int} {E : XK} (hS : SqL K.K H a (ns.map V.int)) (hc : ∃ M', callF T n k [.lst (ns.map .int)] [] = .ok (.bl true) M') : spF T K [x] n k [.ref a] H (fun v _ => v = .bl true) E := by
  obtain ⟨M', hc⟩ := hc
  refine ⟨rfl, ⟨[], [], []⟩, [], [.lst (ns.map .int)], ⟨rfl, List.nodup_nil, fun i a o h => by simp at h, fun a h => by simp at h, fun a h => by simp at h⟩, ?_, ?_⟩
  · refine ⟨.ref a, [], rfl, ?_, rfl⟩
    simp only [DRel]
    refine ⟨a, _, rfl, ?_, ints_rel ns⟩
    rcases hS with hS | hS
    · exact .inl ⟨hS, by simp, by simp⟩
    · exact .inr hS
  · rw [hc]
    intro W' _ _ v dv
    exact dv
/-- whatever the globals are -/
def spL (T : Tb) (K : PySem.W.Frag) (P : Program) (w : World) (ps : List Str) (n k : Nat) : Sp := fun vs H Q E => ∀ mg, spF T ⟨K, P, w, mg, none⟩ ps n k vs H Q E
theorem sp_lawL {T : Tb} {K : PySem.W.Frag} {P : Program} {w : World} {n k : Nat} {x : Str} {H : Hp} {a : Addr} {ns : List Int} {E : XK} (hS : SqL K H a (ns.map V.int)) (hc : ∃ M', callF T n k [.lst (ns.map .int)] [] = .ok (.bl true) M') : spL T K P w [x] n k [.ref a] H (fun v _ => v = .bl true) E := fun mg => sp_law (K := ⟨K, P, w, mg, none⟩) hS hc
theorem cx_no {P : Program} {w : World} {l : List Env} {H : Hp} {s : Shared} {e : Value} {s' : Shared} (h : L2.CX P w l H s (fun _ _ _ => False) e s') : False := by
  obtain ⟨_, _, _, _, _, _, _, _, _, _, _, _, z⟩ := h
  exact z
section
variable {T : Tb} {K : PySem.W.Frag} {h : Heap} {mg : Str → Option Value}
theorem fnAt_mk (X : K.In h) (G : h.Ns mainGlobals mg) {fn : Fn} {st : Stmt} {f : Addr} {oc : Value} {od an : Option Addr} {osl : Array (Option Value)} {kV doc pm cdv ct : Value} {mt : List (Nat × Nat)}
    (a : PySem.W.nsIn K mainGlobals fn.name = some (some (.ref f)))
    (l : K.lookup f = some ⟨oc, od, .func (PySem.W.fnOf fn.name fn.name (defArgs st) (defBody st) (defScope st) .none kV doc pm an cdv ct), osl⟩)
    (c : PySem.W.codeIn K cdv fn.name = true) (k : PySem.W.keepIn K (.ref f) = true) (hw : fn.wh = .glob)
    (sc : FnScope fn.N fn.ps (defScope st)) (ok : OkSs T ⟨defScope st, fn.N, fun _ => true, mt, true, true⟩ (defBody st) fn.body)
    (hb : ∀ (kV doc pm : Value) (an : Option Addr) (cdv ct : Value) (us : List Value), us.length = fn.ps.length → bindArgs (PySem.W.fnOf fn.name fn.name (defArgs st) (defBody st) (defScope st) .none kV doc pm an cdv ct) ⟨us, []⟩ = pure (fn.ps.zip us)) : FnAt T K mg fn :=
  have F := fun_mk l c k
  ⟨f, _, st, fn.name, fn.name, mt, F, sc, by unfold FnWh; rw [hw]; exact ⟨PySem.W.mg_of X G a, k⟩, F.binds hb, ok⟩
theorem fnAt_mkM {fn : Fn} {st : Stmt} {q : Str} {f : Addr} {oc : Value} {od an : Option Addr} {osl : Array (Option Value)} {kV doc pm cdv ct : Value} {mt : List (Nat × Nat)}
    (l : K.lookup f = some ⟨oc, od, .func (PySem.W.fnOf fn.name q (defArgs st) (defBody st) (defScope st) .none kV doc pm an cdv ct), osl⟩)
    (c : PySem.W.codeIn K cdv q = true) (k : PySem.W.keepIn K (.ref f) = true) (hw : FnWh K mg fn f)
    (sc : FnScope fn.N fn.ps (defScope st)) (ok : OkSs T ⟨defScope st, fn.N, fun _ => true, mt, true, true⟩ (defBody st) fn.body)
    (hb : ∀ (kV doc pm : Value) (an : Option Addr) (cdv ct : Value) (us : List Value), us.length = fn.ps.length → bindArgs (PySem.W.fnOf fn.name q (defArgs st) (defBody st) (defScope st) .none kV doc pm an cdv ct) ⟨us, []⟩ = pure (fn.ps.zip us)) : FnAt T K mg fn :=
  have F := fun_mk l c k
  ⟨f, _, st, q, fn.name, mt, F, sc, hw, F.binds hb, ok⟩
/-- the entries of a dict of the module -/
def KdE (q : List Nat × D) (e : DictEntry) : Prop := (∃ t, e.key = .str (toS q.1) t) ∧ ∃ v, RelV v e.val ∧ flatR q.2 v
theorem kdz_mk {d : Addr} {es : List DictEntry} {n : Nat} {l : List (List Nat × D)} (h : K.lookup d = some ⟨.type "dict", none, .dict es.toArray n, #[]⟩) (p : Paired KdE l es) : ∀ z : List Nat, match l.lookup z with
  | some dd => ∃ u v, PySem.W.nsIn K d ⟨z.toArray⟩ = some (some u) ∧ RelV v u ∧ flatR dd v
  | none => PySem.W.nsIn K d ⟨z.toArray⟩ = some none := by
  intro z
  unfold PySem.W.nsIn
  rw [h]
  show match l.lookup z with
    | some dd => ∃ u v, (match es.find? (·.key.isStr (toS z)) with | some e => some (some e.val) | none => if es.any (·.refKey) then none else some none) = some (some u) ∧ RelV v u ∧ flatR dd v
    | none => (match es.find? (·.key.isStr (toS z)) with | some e => some (some e.val) | none => if es.any (·.refKey) then none else some none) = some none
  have key : ∀ (l : List (List Nat × D)) (es : List DictEntry), Paired KdE l es → (∀ dd, l.lookup z = some dd → ∃ e, es.find? (·.key.isStr (toS z)) = some e ∧ ∃ v, RelV v e.val ∧ flatR dd v) ∧ (l.lookup z = none → es.find? (·.key.isStr (toS z)) = none) ∧ es.any (·.refKey) = false := by
    intro l es p
    induction p with
    | nil => exact ⟨fun dd h => by simp at h, fun _ => rfl, rfl⟩
    | @cons q e l es r t ih =>
      obtain ⟨k0, d0⟩ := q
      obtain ⟨⟨tk, ek⟩, v, rv, fv⟩ := r
      dsimp only at ek fv
      obtain ⟨h1, h2, h3⟩ := ih
      have ei : e.key.isStr (toS z) = decide (k0 = z) := by
        rw [ek]
        show (toS k0 == toS z) = _
        by_cases hq : k0 = z
        · rw [hq, decide_eq_true rfl]
          exact beq_self_eq_true _
        · have : toS k0 ≠ toS z := fun e => hq (toS_inj e)
          rw [decide_eq_false hq]
          exact beq_eq_false_iff_ne.mpr this
      have er : e.refKey = false := by unfold DictEntry.refKey; rw [ek]
      refine ⟨fun dd h => ?_, fun h => ?_, by simp [er, h3]⟩
      · by_cases hq : k0 = z
        · subst hq
          simp only [List.lookup_cons_self, Option.some.injEq] at h
          subst h
          exact ⟨e, by simp [List.find?_cons, ei], v, rv, fv⟩
        · have hb : (z == k0) = false := by simpa using fun e => hq e.symm
          rw [List.lookup_cons, hb] at h
          obtain ⟨e', g1, g2⟩ := h1 dd h
          exact ⟨e', by rw [List.find?_cons, ei]; simp [hq, g1], g2⟩
      · by_cases hq : k0 = z
        · subst hq; simp at h
        · have hb : (z == k0) = false := by simpa using fun e => hq e.symm
          rw [List.lookup_cons, hb] at h
          rw [List.find?_cons, ei]; simp [hq, h2 h]
  obtain ⟨h1, h2, h3⟩ := key l es p
  cases e : l.lookup z with
  | some dd =>
    obtain ⟨e', g1, v, g2, g3⟩ := h1 dd e
    exact ⟨e'.val, v, by rw [g1], g2, g3⟩
  | none => rw [h2 e, h3]; rfl
theorem kdAt_mk {w : World} (X : K.In h) (G : h.Ns mainGlobals mg) {x : Str} {d : Addr} {es : List DictEntry} {n : Nat} {l : List (List Nat × D)} (a : PySem.W.nsIn K mainGlobals x = some (some (.ref d))) (hl : K.lookup d = some ⟨.type "dict", none, .dict es.toArray n, #[]⟩) (low : (d == sysModules) = false) (lit : PySem.W.KeysLit w.params es) (p : Paired KdE l es) : KdAt K w mg (x, l) :=
  ⟨d, es.toArray, n, PySem.W.mg_of X G a, ⟨hl, by simpa using lit, low⟩, kdz_mk hl p⟩
theorem con_mk {P : Program} {w : World} (X : K.In h) (G : h.Ns mainGlobals mg) {x : Str} {u : Value} {v : V} {d : D} (a : PySem.W.nsIn K mainGlobals x = some (some u)) (r : RelV v u) (k : KRel ⟨K, P, w, mg, none⟩ d v) : ∃ u v, mg x = some u ∧ RelV v u ∧ KRel ⟨K, P, w, mg, none⟩ d v := ⟨u, v, PySem.W.mg_of X G a, r, k⟩
theorem krel_tup {P : Program} {w : World} {a : Addr} {dd : Option Addr} {us : List Value} {n : Nat} {sl : Array (Option Value)} {ds : List D} {vs : List V} (l : K.lookup a = some ⟨.type "tuple", dd, .seq us.toArray n, sl⟩) (hz : us.length ≤ 1000) (hv : Vals vs us) (hd : ∀ W, DRels ⟨K, P, w, mg, none⟩ W ds vs) : KRel ⟨K, P, w, mg, none⟩ (.tup ds) (.ref a) := fun W => by
  simp only [DRel]
  exact ⟨a, vs, rfl, .inr ⟨_, us.toArray, n, l, rfl, rfl, by rw [List.size_toArray]; exact Nat.le_trans hz (by decide), by simpa using hv⟩, hd W⟩
theorem fns_at {fs : List Fn} (P : Fn → Prop) (h : ∀ f ∈ fs, P f) : ∀ (k : Nat) (f : Fn), fs[k]? = some f → P f := fun k f e => h f (List.mem_of_getElem? e)
theorem con_at {cs : List (Str × D)} {P : Str → D → Prop} (h : ∀ c ∈ cs, P c.1 c.2) : ∀ x d, cs.lookup x = some d → P x d := fun x d e => h (x, d) (PySem.mem_of_lookup e)
end
end RI

set_option maxHeartbeats 4000000
namespace RI
open PySem L2
/-! ### the meanings, applied -/
section
variable (F : FT) (r : EV) (M : Mem)
/-- isinstance -/
def isiD (t : Ty) (d : D) (M1 : Mem) : Res D := (match d with | .obj i => (match M1[i]? with | some (.lst _) => .ok (.bl (isiB .list t)) M1 | _ => .bad) | .exn _ _ _ => .bad | .ins _ _ _ => .bad | d => .ok (.bl (isiB d.ty t)) M1)
@[simp] theorem isiD_tup (t : Ty) (l : List D) (M : Mem) : isiD t (.tup l) M = .ok (.bl (isiB .tuple t)) M := (rfl)
@[simp] theorem isiD_lst (t : Ty) (l : List D) (M : Mem) : isiD t (.lst l) M = .ok (.bl (isiB .list t)) M := (rfl)
@[simp] theorem isiD_int (t : Ty) (i : Int) (M : Mem) : isiD t (.int i) M = .ok (.bl (isiB .int t)) M := (rfl)
@[simp] theorem isiD_bl (t : Ty) (i : Bool) (M : Mem) : isiD t (.bl i) M = .ok (.bl (isiB .bool t)) M := (rfl)
@[simp] theorem isiD_str (t : Ty) (i : List Nat) (M : Mem) : isiD t (.str i) M = .ok (.bl (isiB .str t)) M := (rfl)
@[simp] theorem isiD_non (t : Ty) (M : Mem) : isiD t .non M = .ok (.bl (isiB .none t)) M := (rfl)
@[simp] theorem isiD_obj (t : Ty) (i : Nat) (M : Mem) : isiD t (.obj i) M = (match M[i]? with | some (.lst _) => .ok (.bl (isiB .list t)) M | _ => .bad) := (rfl)
/-- what is walked -/
def itD (d : D) (M1 : Mem) : Res (List D × Gd) := match d with | .tup l => .ok (l, none) M1 | .lst l => .ok (l, none) M1 | .obj j => (match M1[j]? with | some (.lst l) => .ok (l, some (j, l)) M1 | _ => .bad) | _ => .bad
@[simp] theorem itD_tup (l : List D) (M : Mem) : itD (.tup l) M = .ok (l, none) M := (rfl)
@[simp] theorem itD_lst (l : List D) (M : Mem) : itD (.lst l) M = .ok (l, none) M := (rfl)
@[simp] theorem itD_obj (j : Nat) (M : Mem) : itD (.obj j) M = (match M[j]? with | some (.lst l) => .ok (l, some (j, l)) M | _ => .bad) := (rfl)
def enumI (ds : List D) (M1 : Mem) : Res (List D × Gd) := match ds with | [.tup l] => .ok (enumD 0 l, none) M1 | [.lst l] => .ok (enumD 0 l, none) M1 | _ => .bad
@[simp] theorem enumI_tup (l : List D) (M : Mem) : enumI [.tup l] M = .ok (enumD 0 l, none) M := (rfl)
@[simp] theorem enumI_lst (l : List D) (M : Mem) : enumI [.lst l] M = .ok (enumD 0 l, none) M := (rfl)
def zipI (ds : List D) (M1 : Mem) : Res (List D × Gd) := match ds with | [.tup a, .tup b] => .ok (zipD a b, none) M1 | _ => .bad
@[simp] theorem zipI_tup (a b : List D) (M : Mem) : zipI [.tup a, .tup b] M = .ok (zipD a b, none) M := (rfl)
@[simp] theorem ap_var (i : Nat) : mVar i F r M = (match r[i]? with | some (some d) => .ok d M | _ => .bad) := (rfl)
@[simp] theorem ap_c (d : D) : mC d F r M = .ok d M := (rfl)
@[simp] theorem ap_nil : mNil F r M = .ok [] M := (rfl)
@[simp] theorem ap_cons (m : ME) (ms : MA) : mCons m ms F r M = (m F r M).bind fun d M1 => (ms F r M1).bind fun ds M2 => .ok (d :: ds) M2 := (rfl)
@[simp] theorem ap_tup (ms : MA) : mTup ms F r M = (ms F r M).bind fun ds M1 => if ds.length ≤ LIM then .ok (.tup ds) M1 else .bad := (rfl)
@[simp] theorem ap_lst (ms : MA) : mLst ms F r M = (ms F r M).bind fun ds M1 => if ds.length ≤ LIM then .ok (.lst ds) M1 else .bad := (rfl)
@[simp] theorem ap_lstM (ms : MA) : mLstM ms F r M = (ms F r M).bind fun ds M1 => if ds.length ≤ LIM then newO ds M1 else .bad := (rfl)
@[simp] theorem ap_B (f : D → D → Mem → Res D) (a b : ME) : mB f a b F r M = (a F r M).bind fun x M1 => (b F r M1).bind fun y M2 => (f x y M2).noX := (rfl)
@[simp] theorem ap_TB (m : ME) : mTB m F r M = (m F r M).bind fun d M1 => (match d with | .bl b => .ok b M1 | _ => .bad) := (rfl)
@[simp] theorem ap_noPart : mNoPart F r M = .ok none M := (rfl)
@[simp] theorem ap_part (m : ME) : mPart m F r M = (m F r M).bind fun d M1 => (match d with | .int i => .ok (some i) M1 | _ => .bad) := (rfl)
@[simp] theorem ap_sl (m : ME) (lo hi : MO') : mSl m lo hi F r M = (m F r M).bind fun x M1 => (lo F r M1).bind fun i M2 => (hi F r M2).bind fun j M3 => (slD x i j M3).noX := (rfl)
@[simp] theorem ap_and (a b : MT) : mAnd a b F r M = (a F r M).bind fun c M1 => if c then b F r M1 else .ok false M1 := (rfl)
@[simp] theorem ap_or (a b : MT) : mOr a b F r M = (a F r M).bind fun c M1 => if c then .ok true M1 else b F r M1 := (rfl)
@[simp] theorem ap_not (a : MT) : mNot a F r M = (a F r M).bind fun c M1 => .ok (!c) M1 := (rfl)
@[simp] theorem ap_andV (a b : ME) : mAndV a b F r M = (mTB a F r M).bind fun c M1 => if c then b F r M1 else .ok (.bl false) M1 := (rfl)
@[simp] theorem ap_orV (a b : ME) : mOrV a b F r M = (mTB a F r M).bind fun c M1 => if c then .ok (.bl true) M1 else b F r M1 := (rfl)
@[simp] theorem ap_notV (a : ME) : mNotV a F r M = (mTB a F r M).bind fun c M1 => .ok (.bl (!c)) M1 := (rfl)
@[simp] theorem ap_if (c : MT) (a b : ME) : mIf c a b F r M = (c F r M).bind fun k M1 => if k then a F r M1 else b F r M1 := (rfl)
@[simp] theorem ap_tru (m : ME) : mTru m F r M = (m F r M).bind fun d M1 => truD d M1 := (rfl)
@[simp] theorem ap_call (k : Nat) (ms : MA) : mCall k ms F r M = (ms F r M).bind fun ds M1 => F k ds M1 := (rfl)
@[simp] theorem ap_bl (f : List D → Mem → Res D) (ms : MA) : mBl f ms F r M = (ms F r M).bind fun ds M1 => (f ds M1).noX := (rfl)
@[simp] theorem ap_isi (t : Ty) (m : ME) : mIsi t m F r M = (m F r M).bind fun d M1 => isiD t d M1 := (rfl)
@[simp] theorem ap_skip : mSkip F r M = .ok (.next r) M := (rfl)
@[simp] theorem ap_seq (a b : MS) : mSeq a b F r M = (a F r M).bind fun f M1 => (match f with | .next r1 => b F r1 M1 | f => .ok f M1) := (rfl)
@[simp] theorem ap_break : mBreak F r M = .ok (.brk r) M := (rfl)
@[simp] theorem ap_cont : mCont F r M = .ok (.cont r) M := (rfl)
@[simp] theorem ap_never : mNever F r M = .bad := (rfl)
@[simp] theorem ap_rse (c : Str) : mRse c F r M = .ok (.rse ⟨c, []⟩ r) M := (rfl)
@[simp] theorem ap_try (E : List (Str × Str × Bool)) (mb : MS) (hs : List (Str × MS)) : mTry E mb hs F r M = (mb F r M).bind fun f M1 => (match f with | .rse x r1 => hdls E x F r1 M1 hs | f => .ok f M1) := (rfl)
@[simp] theorem ap_ret (m : ME) : mRet m F r M = (m F r M).toS r fun d M1 => .ok (.ret d) M1 := (rfl)
@[simp] theorem ap_retN : mRetN F r M = .ok (.ret .non) M := (rfl)
@[simp] theorem ap_drop (m : ME) : mDrop m F r M = (m F r M).toS r fun _ M1 => .ok (.next r) M1 := (rfl)
@[simp] theorem ap_ifS (c : MT) (a b : MS) : mIfS c a b F r M = (c F r M).toS r fun k M1 => if k then a F r M1 else b F r M1 := (rfl)
@[simp] theorem ap_gN (i : Nat) (d : D) : gN i F d r M = .ok (r.set i (some d)) M := (rfl)
@[simp] theorem ap_gsNil : gsNil F [] r M = .ok r M := (rfl)
@[simp] theorem ap_gsCons (g : MG) (gs : MGs) (d : D) (rest : List D) : gsCons g gs F (d :: rest) r M = (g F d r M).bind fun r1 M1 => gs F rest r1 M1 := (rfl)
@[simp] theorem ap_gTp (n : Nat) (gs : MGs) (d : D) : gTp n gs F d r M = (match seqD M d with | some l => if l.length = n then gs F l r M else .bad | none => .bad) := (rfl)
@[simp] theorem ap_gSb (mo mi : ME) (d : D) : gSb mo mi F d r M = (mo F r M).bind fun o M1 => (mi F r M1).bind fun i M2 => (setD o i d M2).bind fun _ M3 => .ok r M3 := (rfl)
@[simp] theorem ap_asg (m : ME) (g : MG) : mAsg m g F r M = (m F r M).toS r fun d M1 => (g F d r M1).bind fun r1 M2 => .ok (.next r1) M2 := (rfl)
@[simp] theorem ap_par (i j : Nat) (ms : MA) : mPar i j ms F r M = (ms F r M).toS r fun ds M1 => (match ds with | [v, w] => .ok (.next ((r.set i (some v)).set j (some w))) M1 | _ => .bad) := (rfl)
@[simp] theorem ap_par3 (i j l : Nat) (ms : MA) : mPar3 i j l ms F r M = (ms F r M).toS r fun ds M1 => (match ds with | [u, v, w] => .ok (.next (((r.set i (some u)).set j (some v)).set l (some w))) M1 | _ => .bad) := (rfl)
@[simp] theorem ap_aug (i : Nat) (f : D → D → Mem → Res D) (m : ME) : mAug i f m F r M = (match r[i]? with | some (some d) => (m F r M).toS r fun e M1 => (f d e M1).noX.bind fun z M2 => .ok (.next (r.set i (some z))) M2 | _ => .bad) := (rfl)
@[simp] theorem ap_whl (c : MT) (b : MS) : mWhl c b F r M = whileN c b F FUEL r M := (rfl)
@[simp] theorem ap_seqI (m : ME) : mSeqI m F r M = (m F r M).bind fun d M1 => itD d M1 := (rfl)
@[simp] theorem ap_rng1 (ms : MA) : mRng1 ms F r M = (ms F r M).bind fun ds M1 => (match ds with | [.int j] => if rngOk j = true then .ok (rngD 0 j.toNat, none) M1 else .bad | _ => .bad) := (rfl)
@[simp] theorem ap_enum (ms : MA) : mEnum ms F r M = (ms F r M).bind fun ds M1 => enumI ds M1 := (rfl)
@[simp] theorem ap_for (mi : MI) (g : MG) (b : MS) : mFor mi g b F r M = (mi F r M).toS r fun p M1 => forG p.2 g b F p.1 r M1 := (rfl)
@[simp] theorem ap_app (mo mv : ME) : mApp mo mv F r M = (mo F r M).bind fun o M1 => (match o with | .obj j => (match M1[j]? with | some (.lst _) => (mv F r M1).bind fun v M2 => (appD o v M2).noX | _ => .bad) | _ => .bad) := (rfl)
@[simp] theorem ap_yes : mYes F r M = .ok true M := (rfl)
@[simp] theorem ap_lc (mi : MI) (g : MG) (mt : MT) (me : ME) (vs : List Nat) : mLc mi g mt me vs F r M = (mi F r M).bind fun p M1 => if p.1.length ≤ LIM then (lcG p.2 g mt me F (wipeE r vs) p.1 M1).noX.bind fun ys M2 => .ok (.lst ys) M2 else .bad := (rfl)
@[simp] theorem ap_chain (f g : D → D → Mem → Res D) (a b c : ME) : mChain f g a b c F r M = (a F r M).bind fun x M1 => (b F r M1).bind fun y M2 => (f x y M2).noX.bind fun z M3 => (match z with | .bl true => (c F r M3).bind fun w M4 => (g y w M4).noX | .bl false => .ok (.bl false) M3 | _ => .bad) := (rfl)
@[simp] theorem ap_neg (m : ME) : mNeg m F r M = (m F r M).bind fun d M1 => (match d with | .int i => .ok (.int (-i)) M1 | _ => .bad) := (rfl)
@[simp] theorem ap_zip (ms : MA) : mZip ms F r M = (ms F r M).bind fun ds M1 => zipI ds M1 := (rfl)
@[simp] theorem ap_get2 (mo mk md : ME) : mGet2 mo mk md F r M = (mo F r M).bind fun o M1 => if isDctD M1 o = true then (mk F r M1).bind fun k M2 => (md F r M2).bind fun d M3 => (getD2 o k d M3).noX else .bad := (rfl)
@[simp] theorem ap_fmt (m : ME) : mFmt m F r M = (m F r M).bind fun d M1 => fmtD d M1 := (rfl)
@[simp] theorem ap_js0 (acc : List Nat) : mJs [] acc F r M = .ok (.str acc) M := (rfl)
@[simp] theorem ap_js1 (m : ME) (ms : List ME) (acc : List Nat) : mJs (m :: ms) acc F r M = (m F r M).bind fun d M1 => (match d with | .str s => if Nat.ble (acc.length + s.length) 16777216 = true then mJs ms (acc ++ s) F r M1 else .bad | _ => .bad) := (rfl)
@[simp] theorem ap_fld (fl : List (Str × Str)) (f : Str) (m : ME) : mFld fl f m F r M = (m F r M).bind fun d M1 => fldD fl f d M1 := (rfl)
@[simp] theorem ap_setF (fl : List (Str × Str)) (f : Str) (mv mo : ME) : mSetF fl f mv mo F r M = (mv F r M).toS r fun v M1 => (mo F r M1).toS r fun o M2 => (setFD fl f v o M2).bind fun _ M3 => .ok (.next r) M3 := (rfl)
@[simp] theorem ap_make (c : Str) (k : Nat) (ms : MA) : mMake c k ms F r M = (ms F r M).bind fun ds M1 => (F k (.obj M1.length :: ds) (M1 ++ [.ins c []])).bind fun d M2 => (match d with | .non => .ok (.obj M1.length) M2 | _ => .bad) := (rfl)
@[simp] theorem ap_prop (c : Str) (k : Nat) (m : ME) : mProp c k m F r M = (m F r M).bind fun d M1 => if clsD M1 d = some c then (F k [d] M1).noX else .bad := (rfl)
@[simp] theorem ap_dks (ps : List (List Nat × ME)) : mDks ps F r M = (evP ps F r M).bind fun l M1 => if (keysOf ps).Nodup ∧ D.bels M1.length (l.map (·.2)) = true then .ok (.obj M1.length) (M1 ++ [.dks false l]) else .bad := (rfl)
@[simp] theorem ap_evP0 : evP [] F r M = .ok [] M := (rfl)
@[simp] theorem ap_evP1 (q : List Nat × ME) (ps : List (List Nat × ME)) : evP (q :: ps) F r M = (q.2 F r M).noX.bind fun v M1 => (evP ps F r M1).bind fun l M2 => .ok ((.str q.1, v) :: l) M2 := (rfl)
@[simp] theorem ap_lc2 (mi : MI) (g : MG) (mt : MT) (mi1 : MI) (g1 : MG) (mt1 : MT) (me : ME) (vs vs1 : List Nat) : mLc2 mi g mt mi1 g1 mt1 me vs vs1 F r M = (mi F r M).bind fun p M1 => (lcG2 p.2 g mt mi1 g1 mt1 me vs1 F (wipeE r vs) p.1 0 M1).noX.bind fun ys M2 => .ok (.lst ys) M2 := (rfl)
@[simp] theorem ap_inKd (l : List (List Nat × D)) (neg : Bool) (m : ME) : mInKd l neg m F r M = (m F r M).bind fun d M1 => (match d with | .str s => .ok (.bl (if neg then !(l.lookup s).isSome else (l.lookup s).isSome)) M1 | _ => .bad) := (rfl)
@[simp] theorem ap_ixKd (l : List (List Nat × D)) (m : ME) : mIxKd l m F r M = (m F r M).bind fun d M1 => (match d with | .str s => (match l.lookup s with | some v => .ok v M1 | none => .bad) | _ => .bad) := (rfl)
@[simp] theorem ap_dz (ms : MA) : mDz ms F r M = (ms F r M).bind fun ds M1 => (match ds with | [.tup a, .tup b] => (match mergeD [] a b with | some l => if (D.bels M1.length (l.map (·.2)) && Nat.ble (l.length) 16777216) = true then .ok (.obj M1.length) (M1 ++ [.dks false l]) else .bad | none => .bad) | _ => .bad) := (rfl)
@[simp] theorem ap_dc (mi : MI) (g : MG) (mt : MT) (mk mv : ME) (vs : List Nat) : mDc mi g mt mk mv vs F r M = (mi F r M).bind fun p M1 => (dcG p.2 g mt mk mv F (wipeE r vs) p.1 [] M1).noX.bind dcEnd := (rfl)
@[simp] theorem ap_lrg (mt : Bool) (m : ME) : mLRg mt m F r M = (m F r M).bind fun d M1 => (match d with | .int i => if (decide (0 ≤ i) && decide (i ≤ 1000000)) = true then (if mt = true then newO (rgD 0 i) M1 else .ok (.lst (rgD 0 i)) M1) else .bad | _ => .bad) := (rfl)
@[simp] theorem ap_srs (m : ME) : mSrS m F r M = (m F r M).bind fun d M1 => (match d with | .tup ds => (match strsOf ds with | some ss => if Nat.blt ss.length 4000 = true then .ok (.lst (srtL ((firstK ss).map .str))) M1 else .bad | none => .bad) | _ => .bad) := (rfl)
@[simp] theorem ap_dct0 : mDct0 F r M = .ok (.obj M.length) (M ++ [.dct false []]) := (rfl)
@[simp] theorem ap_dct1 (mk mv : ME) : mDct1 mk mv F r M = (mk F r M).noX.bind fun k M1 => (mv F r M1).noX.bind fun v M2 => if (D.isKey k && D.bel M2.length v) = true then .ok (.obj M2.length) (M2 ++ [.dct false [(k, v)]]) else .bad := (rfl)
end
@[simp] theorem noX_ite {A : Type} (c : Prop) [Decidable c] (a b : Res A) : (if c then a else b).noX = if c then a.noX else b.noX := by split <;> rfl
@[simp] theorem noX_exc {A : Type} (x : Ex) (M : Mem) : (Res.exc x M : Res A).noX = .bad := rfl
theorem ixD_S {M : Mem} {x y : D} (h : dctD M x = none) (h' : dksD M x = none) : ixD x y M = ixS x y M := by simp only [ixD, h, h']
theorem inD_S {M : Mem} {n : Bool} {x y : D} (h : dctD M y = none) (h' : dksD M y = none) : inD n x y M = inS n x y M := by simp only [inD, h, h']
theorem setD_S {M : Mem} {j : Nat} {l : List D} {y v : D} (h : M[j]? = some (.lst l)) : setD (.obj j) y v M = setS (.obj j) y v M := by simp only [setD, wctD, wksD, h]
theorem setD_K {M : Mem} {j : Nat} {l : List (D × D)} {y v : D} (h : M[j]? = some (.dct false l)) : setD (.obj j) y v M = setK (.obj j) y v l M := by simp only [setD, wctD, h]
theorem setD_Ks {M : Mem} {j : Nat} {l : List (D × D)} {y v : D} (h : M[j]? = some (.dks false l)) : setD (.obj j) y v M = setKs (.obj j) y v l M := by simp only [setD, wctD, wksD, h]
@[simp] theorem dctD_lst (M : Mem) (l : List D) : dctD M (.lst l) = none := (rfl)
@[simp] theorem dctD_tup (M : Mem) (l : List D) : dctD M (.tup l) = none := (rfl)
@[simp] theorem dksD_lst (M : Mem) (l : List D) : dksD M (.lst l) = none := (rfl)
@[simp] theorem dksD_tup (M : Mem) (l : List D) : dksD M (.tup l) = none := (rfl)
/-! ### data -/
@[simp] theorem add_ii (i j : Int) (M : Mem) : addD (.int i) (.int j) M = .ok (.int (i + j)) M := (rfl)
@[simp] theorem intD_ii (c : Int → Int → Bool) (g : Int → Int → D) (i j : Int) (M : Mem) : intD c g (.int i) (.int j) M = if c i j then .ok (g i j) M else .bad := (rfl)
@[simp] theorem sub_ii (i j : Int) (M : Mem) : subD (.int i) (.int j) M = .ok (.int (i - j)) M := (rfl)
@[simp] theorem mod_ii (i j : Int) (M : Mem) : modD (.int i) (.int j) M = if 0 < j then .ok (.int (i % j)) M else .bad := by simp [modD]
@[simp] theorem fdiv_ii (i j : Int) (M : Mem) : fdivD (.int i) (.int j) M = if 0 < j ∧ j < 1073741824 then .ok (.int (i / j)) M else .bad := by simp [fdivD]
@[simp] theorem lt_ii (i j : Int) (M : Mem) : ltD (.int i) (.int j) M = .ok (.bl (decide (i < j))) M := (rfl)
@[simp] theorem le_ii (i j : Int) (M : Mem) : leD (.int i) (.int j) M = .ok (.bl (decide (i ≤ j))) M := (rfl)
@[simp] theorem gt_ii (i j : Int) (M : Mem) : gtD (.int i) (.int j) M = .ok (.bl (decide (j < i))) M := (rfl)
@[simp] theorem ge_ii (i j : Int) (M : Mem) : geD (.int i) (.int j) M = .ok (.bl (decide (j ≤ i))) M := (rfl)
theorem mul_ii {i j : Int} (h : cmul i j = true) (M : Mem) : mulT (.int i) (.int j) M = .ok (.int (i * j)) M := by simp [mulT, mulD, h]
@[simp] theorem max_two (x y : D) (M : Mem) : maxLD [x, y] M = max2D [x, y] M := (rfl)
@[simp] theorem min_two (x y : D) (M : Mem) : minLD [x, y] M = min2D [x, y] M := (rfl)
/-! data without objects -/
mutual
theorem frz_pure (g : Nat → D) : ∀ d : D, D.noObj d = true → D.frz g d = d
  | .non, _ => rfl
  | .bl _, _ => rfl
  | .int _, _ => rfl
  | .str _, _ => rfl
  | .obj _, h => by simp [D.noObj] at h
  | .exn _ _ _, h => by simp [D.noObj] at h
  | .ins _ _ _, h => by simp [D.noObj] at h
  | .tup l, h => by simp only [D.noObj] at h; simp only [D.frz, frzs_pure g l h]
  | .lst l, h => by simp only [D.noObj] at h; simp only [D.frz, frzs_pure g l h]
theorem frzs_pure (g : Nat → D) : ∀ ds : List D, D.noObjs ds = true → D.frzs g ds = ds
  | [], _ => rfl
  | d :: ds, h => by
    simp only [D.noObjs, Bool.and_eq_true] at h
    simp only [D.frzs, frz_pure g d h.1, frzs_pure g ds h.2]
end
mutual
theorem bel_pure (n : Nat) : ∀ d : D, D.noObj d = true → D.bel n d = true
  | .non, _ => rfl
  | .bl _, _ => rfl
  | .int _, _ => rfl
  | .str _, _ => rfl
  | .obj _, h => by simp [D.noObj] at h
  | .exn _ _ _, h => by simp [D.noObj] at h
  | .ins _ _ _, h => by simp [D.noObj] at h
  | .tup l, h => by simp only [D.noObj] at h; simp only [D.bel, bels_pure n l h]
  | .lst l, h => by simp only [D.noObj] at h; simp only [D.bel, bels_pure n l h]
theorem bels_pure (n : Nat) : ∀ ds : List D, D.noObjs ds = true → D.bels n ds = true
  | [], _ => rfl
  | d :: ds, h => by
    simp only [D.noObjs, Bool.and_eq_true] at h
    simp only [D.bels, bel_pure n d h.1, bels_pure n ds h.2, Bool.and_self]
end
theorem noObjs_map {A : Type} (f : A → D) (h : ∀ a, D.noObj (f a) = true) : ∀ l : List A, D.noObjs (l.map f) = true
  | [] => rfl
  | a :: l => by simp only [List.map_cons, D.noObjs, h a, noObjs_map f h l, Bool.and_self]
@[simp] theorem noObjs_ints (l : List Int) : D.noObjs (l.map D.int) = true := noObjs_map _ (fun _ => rfl) l
@[simp] theorem noObj_int (i : Int) : D.noObj (.int i) = true := (rfl)
@[simp] theorem noObj_bl (i : Bool) : D.noObj (.bl i) = true := (rfl)
@[simp] theorem noObj_str (i : List Nat) : D.noObj (.str i) = true := (rfl)
@[simp] theorem noObj_non : D.noObj .non = true := (rfl)
@[simp] theorem noObj_tup (l : List D) : D.noObj (.tup l) = D.noObjs l := (rfl)
@[simp] theorem noObj_lst (l : List D) : D.noObj (.lst l) = D.noObjs l := (rfl)
@[simp] theorem noObjs_nil : D.noObjs [] = true := (rfl)
@[simp] theorem noObjs_cons (d : D) (ds : List D) : D.noObjs (d :: ds) = (D.noObj d && D.noObjs ds) := (rfl)
/-- a result without objects, the memory as it was (and what was made since) -/
theorem fin_pure {d : D} {M M' : Mem} (h : D.noObj d = true) (e : M'.take M.length = M) : fin false M.length d M' = .ok d M := by
  unfold fin
  rw [frz_pure _ d h, bel_pure _ d h, e]
  rfl
@[simp] theorem fin_same {d : D} {M : Mem} (h : D.noObj d = true) : fin false M.length d M = .ok d M := fin_pure h (by simp)
@[simp] theorem fin_more {d : D} {M X : Mem} (h : D.noObj d = true) : fin false M.length d (M ++ X) = .ok d M := fin_pure h (by simp)
@[simp] theorem fin_keep {d : D} {n : Nat} {M : Mem} : fin true n d M = .ok d M := (rfl)
@[simp] theorem retOf_ret (k : Bool) (n : Nat) (d : D) (M : Mem) : retOf k n (.ok (.ret d) M) = fin k n d M := (rfl)
@[simp] theorem retOf_next (k : Bool) (n : Nat) (r : EV) (M : Mem) : retOf k n (.ok (.next r) M) = fin k n .non M := (rfl)
@[simp] theorem lstD_lst (M : Mem) (l : List D) : lstD M (.lst l) = some l := (rfl)
@[simp] theorem seqD_lst (M : Mem) (l : List D) : seqD M (.lst l) = some l := (rfl)
@[simp] theorem seqD_tup (M : Mem) (l : List D) : seqD M (.tup l) = some l := (rfl)
/-- equality of flat things -/
theorem str_beq (s t : List Nat) : ((⟨s.toArray⟩ : Str) == ⟨t.toArray⟩) = decide (s = t) := by
  by_cases h : s = t
  · subst h; simp
  · have : (⟨s.toArray⟩ : Str) ≠ ⟨t.toArray⟩ := fun e => h (by injection e with e; simpa using e)
    simp [h, this]
@[simp] theorem eq_ii (n : Bool) (i j : Int) (M : Mem) : eqD n (.int i) (.int j) M = .ok (.bl (if n then !decide (i = j) else decide (i = j))) M := by
  have h : (PyData.eqv (.int i) (.int j)) = decide (i = j) := by
    simp only [PyData.eqv]
    by_cases e : i = j <;> simp [e]
  simp [eqD, derefD, D.toP, SeqAt.shaped, PyData.canLay0, PyData.depth, h]
theorem eq_ss {s t : List Nat} (hs : s.all (· < 1114112) = true) (ht : t.all (· < 1114112) = true) (n : Bool) (M : Mem) : eqD n (.str s) (.str t) M = .ok (.bl (if n then !decide (s = t) else decide (s = t))) M := by
  have h : (PyData.eqv (.str ⟨s.toArray⟩) (.str ⟨t.toArray⟩)) = decide (s = t) := by
    simp only [PyData.eqv, str_beq]
  have k : ∀ u : List Nat, u.all (· < 1114112) = true → PyData.canLay0 (.str ⟨u.toArray⟩) = true := fun u hu => by
    simp only [PyData.canLay0, PyData.strOk, List.all_toArray]; exact hu
  simp [eqD, derefD, D.toP, SeqAt.shaped, k s hs, k t ht, PyData.depth, h]
theorem toPs_map {A : Type} (f : A → D) : ∀ l : List A, D.toPs (l.map f) = l.map fun a => D.toP (f a)
  | [] => rfl
  | a :: l => by simp only [List.map_cons, D.toPs, toPs_map f l]
theorem canLay_map {A : Type} (g : A → PyData) (h : ∀ a, (g a).canLay0 = true) : ∀ l : List A, PyData.canLayAll0 (l.map g) = true
  | [] => rfl
  | a :: l => by simp only [List.map_cons, PyData.canLayAll0, h a, canLay_map g h l, Bool.and_self]
theorem depth_map {A : Type} (g : A → PyData) (n : Nat) (h : ∀ a, (g a).depth ≤ n) : ∀ l : List A, PyData.depthAll (l.map g) ≤ n
  | [] => Nat.zero_le _
  | a :: l => by
    simp only [List.map_cons, PyData.depthAll]
    exact Nat.max_le.mpr ⟨h a, depth_map g n h l⟩
/-- flat or nearly flat items -/
structure Nice {A : Type} (f : A → D) : Prop where
  no : ∀ a, D.noObj (f a) = true
  lay : ∀ a, (D.toP (f a)).canLay0 = true
  dep : ∀ a, (D.toP (f a)).depth ≤ 32
theorem nice_int : Nice D.int := ⟨fun _ => rfl, fun _ => rfl, fun _ => Nat.zero_le _⟩
theorem Nice.shT {A : Type} {f : A → D} (h : Nice f) (l : List A) : SeqAt.shaped (D.toP (.tup (l.map f))) = true := by
  have h1 := canLay_map _ h.lay l
  have h2 := depth_map _ 32 h.dep l
  simp only [D.toP, SeqAt.shaped, PyData.canLay0, PyData.depth, toPs_map, h1, Bool.true_and, decide_eq_true_eq]
  omega
theorem Nice.shL {A : Type} {f : A → D} (h : Nice f) (l : List A) : SeqAt.shaped (D.toP (.lst (l.map f))) = true := by
  have h1 := canLay_map _ h.lay l
  have h2 := depth_map _ 32 h.dep l
  simp only [D.toP, SeqAt.shaped, PyData.canLay0, PyData.depth, toPs_map, h1, Bool.true_and, decide_eq_true_eq]
  omega
theorem Nice.noL {A : Type} {f : A → D} (h : Nice f) (l : List A) : D.noObjs (l.map f) = true := noObjs_map f h.no l
theorem Nice.tup {A : Type} {f : A → D} (h : Nice f) (hd : ∀ a, (D.toP (f a)).depth ≤ 31) : Nice (fun l : List A => .tup (l.map f)) :=
  ⟨fun l => h.noL l, fun l => by
    simp only [D.toP, PyData.canLay0, toPs_map]; exact canLay_map _ h.lay l, fun l => by
    have := depth_map (fun a => D.toP (f a)) 31 hd l
    simp only [D.toP, PyData.depth, toPs_map]; omega⟩
/-- a list and [] -/
theorem eq_nil {A : Type} {f : A → D} (h : Nice f) (n : Bool) (l : List A) (M : Mem) : eqD n (.lst (l.map f)) (.lst []) M = .ok (.bl (if n then !l.isEmpty else l.isEmpty)) M := by
  have e : PyData.eqv (D.toP (.lst (l.map f))) (D.toP (.lst [])) = l.isEmpty := by
    cases l <;> simp [D.toP, D.toPs, PyData.eqv, PyData.eqvAll]
  simp only [eqD, derefD, noObj_lst, h.noL, noObjs_nil, h.shL, e]
  rfl
/-- alike -/
theorem eq_same {d : D} (h1 : D.noObj d = true) (h2 : SeqAt.shaped (D.toP d) = true) (n : Bool) (M : Mem) : eqD n d d M = .ok (.bl (!n)) M := by
  have e : derefD M d = d := by cases d <;> first | rfl | simp [D.noObj] at h1
  have r : PyData.eqv (D.toP d) (D.toP d) = true := SeqAt.eqv_refl _ (SeqAt.canLay_of_shaped h2)
  simp only [eqD, e, h1, h2, Bool.and_self, if_true, r]
  cases n <;> rfl
/-- membership among ints -/
theorem eqv_int (i j : Int) : PyData.eqv (.int i) (.int j) = decide (i = j) := by
  simp only [PyData.eqv]
  by_cases e : i = j <;> simp [e]
theorem any_ints (x : Int) : ∀ l : List Int, ((D.toPs (l.map D.int)).any fun z => PyData.eqv z (.int x)) = decide (x ∈ l)
  | [] => by simp [D.toPs]
  | a :: l => by
    simp only [List.map_cons, D.toPs, D.toP, List.any_cons, eqv_int, any_ints x l]
    by_cases h : a = x
    · simp [h]
    · have : x ≠ a := fun e => h e.symm
      simp [h, this]
theorem in_ints (n : Bool) (x : Int) (l : List Int) (M : Mem) {d : D} (h : seqD M d = some (l.map D.int)) : inD n (.int x) d M = .ok (.bl (if n then !decide (x ∈ l) else decide (x ∈ l))) M := by
  have hc : PyData.canLayAll0 (D.toPs (l.map D.int)) = true := by rw [toPs_map]; exact canLay_map _ (fun _ => rfl) l
  have hs : SeqAt.shaped (D.toP (.int x)) = true := by simp [D.toP, SeqAt.shaped, PyData.canLay0, PyData.depth]
  rw [inD_S (dctD_none h) (dksD_none h)]
  simp only [inS, h, noObj_int, noObjs_ints, hs, hc, Bool.and_self, if_true]
  simp only [D.toP, any_ints]
theorem at_nat {A : Type} {l : List A} {i : Int} (h0 : 0 ≤ i) (h1 : i < l.length) : atI l i = some (l[i.toNat]'(by omega)) := by
  have e : i = ((i.toNat : Nat) : Int) := by omega
  have := atI_nat (xs := l) (j := i.toNat) (List.getElem?_eq_getElem (by omega))
  rw [← e] at this
  exact this
end RI

set_option maxHeartbeats 4000000
namespace RI
open PySem L2
/-! ### lists, whether frozen or not -/
theorem lstD_cases {M : Mem} {d : D} {l : List D} (h : lstD M d = some l) : d = .lst l ∨ ∃ j, d = .obj j ∧ M[j]? = some (.lst l) := by
  cases d with
  | lst l' => simp only [lstD, Option.some.injEq] at h; exact .inl (by rw [h])
  | obj j =>
    simp only [lstD] at h
    cases e : M[j]? with
    | none => rw [e] at h; cases h
    | some o =>
      cases o with
      | dct _ l' => rw [e] at h; cases h
      | dks _ l' => rw [e] at h; cases h
      | ins _ l' => rw [e] at h; cases h
      | lst l' =>
        rw [e] at h
        simp only [Option.some.injEq] at h
        exact .inr ⟨j, rfl, by rw [e, h]⟩
  | _ => simp [lstD] at h
theorem seqD_of {M : Mem} {d : D} {l : List D} (h : lstD M d = some l) : seqD M d = some l := by
  rcases lstD_cases h with rfl | ⟨j, rfl, e⟩
  · rfl
  · simp [seqD, e]
theorem ix_seq {M : Mem} {d : D} {l : List D} {i : Int} (h : seqD M d = some l) : ixD d (.int i) M = (match atI l i with | some d => .ok d M | none => .bad) := by
  rw [ixD_S (dctD_none h) (dksD_none h)]
  simp only [ixS, h] <;> (cases atI l i <;> rfl)
theorem ix_get {M : Mem} {d x : D} {l : List D} {i : Int} (h : seqD M d = some l) (e : atI l i = some x) : ixD d (.int i) M = .ok x M := by
  rw [ix_seq h, e]
theorem at_0 {A : Type} (x : A) (l : List A) : atI (x :: l) 0 = some x := atI_nat (j := 0) rfl
theorem at_1 {A : Type} (x y : A) (l : List A) : atI (x :: y :: l) 1 = some y := atI_nat (j := 1) rfl
theorem at_2 {A : Type} (x y z : A) (l : List A) : atI (x :: y :: z :: l) 2 = some z := atI_nat (j := 2) rfl
theorem ix_lst0 {M : Mem} {x : D} {l : List D} : ixD (.lst (x :: l)) (.int 0) M = .ok x M := ix_get rfl (at_0 x l)
theorem ix_tup0 {M : Mem} {x : D} {l : List D} : ixD (.tup (x :: l)) (.int 0) M = .ok x M := ix_get rfl (at_0 x l)
theorem ix_tup1 {M : Mem} {x y : D} {l : List D} : ixD (.tup (x :: y :: l)) (.int 1) M = .ok y M := ix_get rfl (at_1 x y l)
theorem ix_lst1 {M : Mem} {x y : D} {l : List D} : ixD (.lst (x :: y :: l)) (.int 1) M = .ok y M := ix_get rfl (at_1 x y l)
theorem cut_1 (l : List D) : cutD l (some 1) none = l.drop 1 := by
  unfold cutD
  rw [show HT.sIx l.length 0 (some 1) = min 1 l.length from HT.sIx_nat l.length 0 1, HT.sIx_none]
  cases l with
  | nil => rfl
  | cons x r =>
    rw [show min 1 (x :: r).length = 1 by rw [List.length_cons]; omega]
    show (List.take ((x :: r).length - 1) r) = r
    rw [List.length_cons, Nat.add_sub_cancel]
    exact List.take_length
theorem sl_of {M : Mem} {d : D} {l : List D} (h : lstD M d = some l) (lo hi : Option Int) : slD d lo hi M = .ok (.lst (cutD l lo hi)) M := by
  rcases lstD_cases h with rfl | ⟨j, rfl, e⟩ <;> simp only [slD, h]
theorem slT (l : List D) (lo hi : Option Int) (M : Mem) : slD (.tup l) lo hi M = .ok (.tup (cutD l lo hi)) M := rfl
theorem add_of {M : Mem} {d e : D} {l l' : List D} (h : lstD M d = some l) (h' : lstD M e = some l') (hz : l.length + l'.length ≤ LIM) : addD d e M = .ok (.lst (l ++ l')) M := by
  rcases lstD_cases h with rfl | ⟨j, rfl, q⟩ <;> rcases lstD_cases h' with rfl | ⟨j', rfl, q'⟩ <;> simp only [addD, h, h', hz, if_true]
theorem add_tup {a b : List D} (hz : a.length + b.length ≤ LIM) (M : Mem) : addD (.tup a) (.tup b) M = .ok (.tup (a ++ b)) M := by
  simp only [addD, hz, if_true]
theorem add_lst {a b : List D} (hz : a.length + b.length ≤ LIM) (M : Mem) : addD (.lst a) (.lst b) M = .ok (.lst (a ++ b)) M := add_of rfl rfl hz
theorem dicD_seq {M : Mem} {d : D} {l : List D} (h : seqD M d = some l) : dicD M d = none := by
  unfold dicD
  rw [dctD_none h, dksD_none h]
theorem len_of {M : Mem} {d : D} {l : List D} (h : seqD M d = some l) : lenX [d] M = .ok (.int l.length) M := by
  simp only [lenX, dicD_seq h]
  cases d with
  | str s => simp [seqD] at h
  | _ => simp only [lenD, h]
theorem tup_of {M : Mem} {d : D} {l : List D} (h : lstD M d = some l) : toTupD [d] M = .ok (.tup l) M := by
  rcases lstD_cases h with rfl | ⟨j, rfl, q⟩ <;> simp only [toTupD, h]
theorem tup_tup (l : List D) (M : Mem) : toTupD [.tup l] M = .ok (.tup l) M := rfl
theorem toLst_of {M : Mem} {d : D} {l : List D} (h : seqD M d = some l) : toLstX false [d] M = .ok (.lst l) M := by
  simp only [toLstX, dicD_seq h, toLstD, h]; rfl
theorem toLstM_of {M : Mem} {d : D} {l : List D} (h : seqD M d = some l) (b : D.noObjs l = true) : toLstX true [d] M = .ok (.obj M.length) (M ++ [.lst l]) := by
  simp only [toLstX, dicD_seq h, toLstD, h, newO, bels_pure _ l b, if_true]
theorem newO_pure {l : List D} (b : D.noObjs l = true) (M : Mem) : newO l M = .ok (.obj M.length) (M ++ [.lst l]) := by
  simp only [newO, bels_pure _ l b, if_true]
theorem get_last {M X : Mem} {o : MO} : (M ++ o :: X)[M.length]? = some o := by
  rw [List.getElem?_append_right (Nat.le_refl _)]; simp
theorem lstD_last {M X : Mem} {l : List D} : lstD (M ++ .lst l :: X) (.obj M.length) = some l := by
  simp only [lstD, get_last]
theorem set_last {M X : Mem} {o o' : MO} : (M ++ o :: X).set M.length o' = M ++ o' :: X := by
  rw [List.set_append_right _ _ (Nat.le_refl _)]; simp
theorem app_last {M X : Mem} {l : List D} {v : D} (hz : l.length < LIM) (hv : D.noObj v = true) : appD (.obj M.length) v (M ++ .lst l :: X) = .ok .non (M ++ .lst (l ++ [v]) :: X) := by
  simp only [appD, get_last, hz, bel_pure _ v hv, and_self, if_true, set_last]
/-- a pair whose first is an object made since -/
theorem frz_last {M X : Mem} {l : List D} (b : D.noObjs l = true) : frzM (M ++ .lst l :: X) M.length 3 M.length = .lst l := by
  simp only [frzM, Nat.lt_irrefl, if_false, get_last, frzs_pure _ l b]
theorem lim_ok {n : Nat} (h : n ≤ 1000) : n ≤ LIM := by
  show n ≤ 16777216
  omega
@[simp] theorem noObjs_app (a b : List D) : D.noObjs (a ++ b) = (D.noObjs a && D.noObjs b) := by
  induction a with
  | nil => simp
  | cons d ds ih => simp [ih, Bool.and_assoc]
theorem noObjs_tail {a : List D} (h : D.noObjs a = true) : D.noObjs a.tail = true := by
  cases a with
  | nil => rfl
  | cons d ds => simp only [noObjs_cons, Bool.and_eq_true] at h; exact h.2
theorem noObjs_drop {a : List D} (h : D.noObjs a = true) : ∀ n, D.noObjs (a.drop n) = true := fun n => by
  induction n generalizing a with
  | zero => exact h
  | succ n ih =>
    cases a with
    | nil => rfl
    | cons d ds => simp only [noObjs_cons, Bool.and_eq_true] at h; exact ih h.2
@[simp] theorem noObjs_tail_ints (l : List Int) : D.noObjs (l.map D.int).tail = true := noObjs_tail (noObjs_ints l)
theorem dicD_dct {M : Mem} {i : Nat} {lk : Bool} {l : List (D × D)} (h : M[i]? = some (.dct lk l)) : dicD M (.obj i) = some l := by simp only [dicD, dctD, h]
theorem dicD_dks {M : Mem} {i : Nat} {lk : Bool} {l : List (D × D)} (h : M[i]? = some (.dks lk l)) : dicD M (.obj i) = some l := by simp only [dicD, dctD, dksD, h]
theorem len_dic {M : Mem} {d : D} {l : List (D × D)} (h : dicD M d = some l) : lenX [d] M = .ok (.int l.length) M := by simp only [lenX, h]
theorem lst_dic {M : Mem} {d : D} {l : List (D × D)} (h : dicD M d = some l) : toLstX false [d] M = .ok (.lst (l.map (·.1))) M := by simp [toLstX, h]
end RI

set_option maxHeartbeats 4000000
namespace RI
open PySem L2
/-! ### the laws' own stream of numbers -/
def mixG : MG := (gN 3)
def mixL : MS := (mAsg (mB modD (mBl toIntD (mCons (mB addD (mB addD (mB mulT (mVar 2) (mC (.int 48271))) (mB modD (mBl toIntD (mCons (mVar 3) mNil)) (mC (.int 2147483629)))) (mC (.int 1))) mNil)) (mC (.int 2147483647))) (gN 2))
def mixB : MS := (mSeq (mAsg (mVar 1) (gN 2))
 (mSeq (mFor (mSeqI (mVar 0)) mixG mixL)
 (mRet (mLstM (mCons (mVar 2) (mCons (mBl (toLstX true) (mCons (mVar 0) mNil)) (mCons (mC (.int 0)) mNil)))))))
def nextB : MS := (mSeq (mAsg (mB ixD (mB addD (mB ixD (mVar 0) (mC (.int 1))) (mLst (mCons (mC (.int 0)) mNil))) (mB modD (mBl toIntD (mCons (mB ixD (mVar 0) (mC (.int 2))) mNil)) (mBl maxLD (mCons (mC (.int 1)) (mCons (mBl lenX (mCons (mB ixD (mVar 0) (mC (.int 1))) mNil)) mNil))))) (gN 2))
 (mSeq (mIfS (mTB (mB geD (mVar 2) (mB powD (mC (.int 10)) (mC (.int 18)))))
 (mSeq (mAsg (mB ixD (mVar 0) (mC (.int 1))) (gN 3))
 (mSeq (mAsg (mB fdivD (mVar 2) (mVar 1)) (gSb (mVar 3) (mB modD (mBl toIntD (mCons (mB ixD (mVar 0) (mC (.int 2))) mNil)) (mBl lenX (mCons (mVar 3) mNil)))))
 (mRet (mB modD (mBl toIntD (mCons (mVar 2) mNil)) (mVar 1)))))
 mSkip)
 (mSeq (mAsg (mB modD (mBl toIntD (mCons (mB addD (mB addD (mB mulT (mB ixD (mVar 0) (mC (.int 0))) (mC (.int 48271))) (mB mulT (mVar 2) (mC (.int 69621)))) (mC (.int 11))) mNil)) (mC (.int 2147483647))) (gSb (mVar 0) (mC (.int 0))))
 (mSeq (mAsg (mB addD (mB ixD (mVar 0) (mC (.int 2))) (mC (.int 1))) (gSb (mVar 0) (mC (.int 2))))
 (mRet (mB modD (mBl toIntD (mCons (mB fdivD (mB ixD (mVar 0) (mC (.int 0))) (mC (.int 7))) mNil)) (mVar 1)))))))
def memS (cells : List Int) (s i : Int) (rest : Mem) : Mem := .lst (cells.map D.int) :: .lst [.int s, .obj 0, .int i] :: rest
/-- the stream lies in objects 0 and 1 -/
def Hm (M rest : Mem) : Prop := ∃ cells s i, cells.length ≤ 63 ∧ M = memS cells s i rest
theorem cmul_s {i j : Int} (h : Nat.ble j.natAbs 18446744073709551615 = true) : cmul i j = true := by
  unfold cmul; rw [h, Bool.or_true]
@[simp] theorem toInt_i (i : Int) (M : Mem) : toIntD [.int i] M = .ok (.int i) M := (rfl)
theorem mul_a (i : Int) (M : Mem) : mulT (.int i) (.int 48271) M = .ok (.int (i * 48271)) M := mul_ii (cmul_s rfl) M
theorem mul_b (i : Int) (M : Mem) : mulT (.int i) (.int 69621) M = .ok (.int (i * 69621)) M := mul_ii (cmul_s rfl) M
theorem mix_loop (F : FT) (a b : Option D) (M : Mem) : ∀ (l : List Int) (s : Int) (z : Option D), ∃ s' z', forG none mixG mixL F (l.map D.int) [a, b, some (.int s), z] M = .ok (.next [a, b, some (.int s'), z']) M
  | [], s, z => ⟨s, z, rfl⟩
  | x :: l, s, z => by
    obtain ⟨s', z', ih⟩ := mix_loop F a b M l ((s * 48271 + x % 2147483629 + 1) % 2147483647) (some (.int x))
    refine ⟨s', z', ?_⟩
    rw [← ih]
    simp [forG, mixG, mixL, mul_a]
theorem mix_ok (F : FT) (ns : List Int) (seed : Int) (h : ns.length ≤ 63) : ∃ M, Hm M [] ∧ retOf true ([] : Mem).length (mixB F [some (.lst (ns.map .int)), some (.int seed), none, none] []) = .ok (.obj 1) M := by
  obtain ⟨s', z', e⟩ := mix_loop F (some (.lst (ns.map .int))) (some (.int seed)) [] ns seed none
  refine ⟨_, ⟨ns, s', 0, h, rfl⟩, ?_⟩
  have h1 := toLstM_of (M := []) (d := .lst (ns.map .int)) (l := ns.map .int) rfl (noObjs_ints ns)
  have h2 : newO [.int s', .obj 0, .int 0] [.lst (ns.map D.int)] = .ok (.obj 1) (memS ns s' 0 []) := rfl
  simp [mixB, e, h1, h2, LIM]
theorem pow_10 (M : Mem) : powD (.int 10) (.int 18) M = .ok (.int 1000000000000000000) M := by
  simp [powD]
theorem ixS0 {c : List Int} {s i : Int} {X : Mem} : ixD (.obj 1) (.int 0) (memS c s i X) = .ok (.int s) (memS c s i X) := ix_get (l := [.int s, .obj 0, .int i]) rfl (at_0 _ _)
theorem ixS1 {c : List Int} {s i : Int} {X : Mem} : ixD (.obj 1) (.int 1) (memS c s i X) = .ok (.obj 0) (memS c s i X) := ix_get (l := [.int s, .obj 0, .int i]) rfl (at_1 _ _ _)
theorem ixS2 {c : List Int} {s i : Int} {X : Mem} : ixD (.obj 1) (.int 2) (memS c s i X) = .ok (.int i) (memS c s i X) := ix_get (l := [.int s, .obj 0, .int i]) rfl (at_2 _ _ _ _)
theorem ixN_3_0 : ixN 3 0 = some 0 := by decide
theorem ixN_3_2 : ixN 3 2 = some 2 := by decide
theorem setS0 {c : List Int} {s i v : Int} {X : Mem} : setD (.obj 1) (.int 0) (.int v) (memS c s i X) = .ok () (memS c v i X) := by
  rw [setD_S rfl]; simp [setS, memS, ixN_3_0, D.bel]
theorem setS2 {c : List Int} {s i v : Int} {X : Mem} : setD (.obj 1) (.int 2) (.int v) (memS c s i X) = .ok () (memS c s v X) := by
  rw [setD_S rfl]; simp [setS, memS, ixN_3_2, D.bel]
theorem setSc {c : List Int} {s i v k : Int} {X : Mem} (h0 : 0 ≤ k) (h1 : k < c.length) : setD (.obj 0) (.int k) (.int v) (memS c s i X) = .ok () (memS (c.set k.toNat v) s i X) := by
  have e : ixN c.length k = some k.toNat := by
    unfold ixN
    simp [h0, h1]
  rw [setD_S rfl]; simp [setS, memS, e, D.bel, List.map_set]
theorem fin_memS {c c' : List Int} {s i s' i' r : Int} {X : Mem} : fin false (memS c s i X).length (.int r) (memS c' s' i' X) = .ok (.int r) (memS c' s' i' X) := by
  have e : (memS c s i X).length = (memS c' s' i' X).length := rfl
  rw [e]
  exact fin_same rfl
theorem next_ok (F : FT) (b : Int) (h1 : 1 ≤ b) (h2 : b < 1073741824) (M X : Mem) (h : Hm M X) : ∃ r M', 0 ≤ r ∧ r < b ∧ Hm M' X ∧ retOf false M.length (nextB F [some (.obj 1), some (.int b), none, none] M) = .ok (.int r) M' := by
  obtain ⟨c, s, i, hc, rfl⟩ := h
  have hb : 0 < b := by omega
  have hm : (0 : Int) < max 1 (c.length : Int) := by omega
  have k0 := Int.emod_nonneg i (Int.ne_of_gt hm)
  have k1 := Int.emod_lt_of_pos i hm
  have hadd : addD (.obj 0) (.lst [.int 0]) (memS c s i X) = .ok (.lst (c.map .int ++ [.int 0])) (memS c s i X) := 
    add_of (l := c.map .int) (l' := [.int 0]) rfl rfl (by simp [LIM]; omega)
  have hlen : lenX [.obj 0] (memS c s i X) = .ok (.int c.length) (memS c s i X) := by
    rw [len_of (l := c.map .int) rfl]; simp
  have hmax : ∀ M, max2D [.int 1, .int (c.length : Int)] M = .ok (.int (max 1 (c.length : Int))) M := by
    intro M; simp only [max2D]; congr 2; omega
  have hk : i % max 1 (c.length : Int) < (c ++ [0]).length := by simp; omega
  generalize hcell : (c ++ [0])[(i % max 1 (c.length : Int)).toNat]'(by omega) = cell
  have hix : ∀ M, ixD (.lst (c.map .int ++ [.int 0])) (.int (i % max 1 (c.length : Int))) M = .ok (.int cell) M := fun M => ix_get (l := (c ++ [0]).map .int) (by simp) (by
    rw [at_nat k0 (by simpa using hk), List.getElem_map, hcell])
  by_cases hg : (1000000000000000000 : Int) ≤ cell
  · have hne : c ≠ [] := by
      intro e
      subst e
      simp at hcell
      omega
    have hl : 0 < c.length := List.length_pos_iff.mpr hne
    have hl' : (0 : Int) < c.length := by omega
    refine ⟨cell % b, memS (c.set (i % (c.length : Int)).toNat (cell / b)) s i X, Int.emod_nonneg _ (by omega), Int.emod_lt_of_pos _ hb, ⟨_, _, _, by simpa using hc, rfl⟩, ?_⟩
    simp [LIM, nextB, ixS1, ixS2, hadd, hlen, hmax, hm, hix, pow_10, hg, hb, h2, hl, setSc (c := c) (s := s) (i := i) (X := X) (v := cell / b) (Int.emod_nonneg i (Int.ne_of_gt hl')) (Int.emod_lt_of_pos i hl'), fin_memS]
  · refine ⟨(((s * 48271 + cell * 69621 + 11) % 2147483647) / 7) % b, memS c ((s * 48271 + cell * 69621 + 11) % 2147483647) (i + 1) X, Int.emod_nonneg _ (by omega), Int.emod_lt_of_pos _ hb, ⟨_, _, _, hc, rfl⟩, ?_⟩
    simp [LIM, nextB, ixS0, ixS1, ixS2, hadd, hlen, hmax, hm, hix, pow_10, hg, hb, h2, mul_a, mul_b, setS0, setS2, fin_memS]
end RI

set_option maxHeartbeats 4000000
namespace RI
open PySem L2
/-! ### loops by an invariant over a pure state -/
/-- how a turn ends: on, with a new state; or out of the loop -/
def TurnOk {St R : Type} (I : St → EV → Mem → Prop) (Out : R → Fl → Mem → Prop) (x : Res Fl) : Sum R St → Prop
  | .inl y => ∃ f M', x = .ok f M' ∧ Out y f M' ∧ (match f with | .ret _ => True | .rse _ _ => True | _ => False)
  | .inr s' => ∃ r' M', (x = .ok (.next r') M' ∨ x = .ok (.cont r') M') ∧ I s' r' M'
def LoopOk {St R : Type} (I : St → EV → Mem → Prop) (Out : R → Fl → Mem → Prop) (x : Res Fl) : Sum R St → Prop
  | .inl y => ∃ f M', x = .ok f M' ∧ Out y f M' ∧ (match f with | .ret _ => True | .rse _ _ => True | _ => False)
  | .inr s' => ∃ r' M', x = .ok (.next r') M' ∧ I s' r' M'
theorem LoopOk.turn {St R : Type} {I : St → EV → Mem → Prop} {Out : R → Fl → Mem → Prop} {x : Res Fl} {s : Sum R St} (h : LoopOk I Out x s) : TurnOk I Out x s := by
  cases s with
  | inl y => exact h
  | inr s => obtain ⟨r', M', e, i⟩ := h; exact ⟨r', M', .inl e, i⟩
def foldS {St R A : Type} (nx : St → A → Sum R St) : St → List A → Sum R St
  | s, [] => .inr s
  | s, a :: l => match nx s a with
    | .inl y => .inl y
    | .inr s' => foldS nx s' l
theorem foldS_app {St R A : Type} (nx : St → A → Sum R St) : ∀ (l m : List A) (s : St), foldS nx s (l ++ m) = match foldS nx s l with
    | .inl y => .inl y
    | .inr s' => foldS nx s' m
  | [], m, s => rfl
  | a :: l, m, s => by
    simp only [List.cons_append, foldS]
    cases nx s a with
    | inl y => rfl
    | inr s' => exact foldS_app nx l m s'
theorem for_ok {St R A : Type} {gd : Gd} {g : MG} {b : MS} {F : FT} {enc : A → D} (I : St → EV → Mem → Prop) (Out : R → Fl → Mem → Prop) (nx : St → A → Sum R St) (hgd : ∀ s r M, I s r M → Gd.ok gd M = true)
    : ∀ (l : List A) (h : ∀ s a r M, a ∈ l → I s r M → TurnOk I Out ((g F (enc a) r M).bind fun r1 M1 => b F r1 M1) (nx s a)) (s : St) (r : EV) (M : Mem), I s r M → LoopOk I Out (forG gd g b F (l.map enc) r M) (foldS nx s l)
  | [], h, s, r, M, i => ⟨r, M, by simp only [List.map_nil, forG, hgd s r M i, if_true], i⟩
  | a :: l, h, s, r, M, i => by
    have h1 := h s a r M List.mem_cons_self i
    have hg := hgd s r M i
    simp only [List.map_cons, forG, hg, if_true, foldS]
    cases e : nx s a with
    | inl y =>
      rw [e] at h1
      obtain ⟨f, M', e1, o, hf⟩ := h1
      refine ⟨f, M', ?_, o, hf⟩
      rw [← bind_assoc, e1, Res.bind_ok]
      cases f <;> first | rfl | exact hf.elim
    | inr s' =>
      rw [e] at h1
      obtain ⟨r', M', e1, i'⟩ := h1
      have ih := for_ok I Out nx hgd l (fun s a r M ha => h s a r M (List.mem_cons_of_mem _ ha)) s' r' M' i'
      rw [← bind_assoc]
      rcases e1 with e1 | e1 <;> (rw [e1, Res.bind_ok]; exact ih)
/-- a comprehension over what does not change -/
theorem lc_ok {A : Type} {gd : Gd} {g : MG} {mt : MT} {me : ME} {F : FT} {r : EV} {enc : A → D} {M : Mem} (hgd : Gd.ok gd M = true) (keep : A → Bool) (val : A → D) : ∀ (l : List A)
    (h : ∀ a ∈ l, ∃ r1, g F (enc a) r M = .ok r1 M ∧ mt F r1 M = .ok (keep a) M ∧ (keep a = true → me F r1 M = .ok (val a) M)), lcG gd g mt me F r (l.map enc) M = .ok ((l.filter keep).map val) M
  | [], h => by simp only [List.map_nil, lcG, hgd, if_true]; rfl
  | a :: l, h => by
    obtain ⟨r1, e1, e2, e3⟩ := h a List.mem_cons_self
    have ih := lc_ok hgd keep val l fun a ha => h a (List.mem_cons_of_mem _ ha)
    simp only [List.map_cons, lcG, hgd, if_true, e1, Res.bind_ok, e2]
    cases hk : keep a with
    | true =>
      simp only [if_true, e3 hk, Res.bind_ok, ih, List.filter_cons_of_pos hk, List.map_cons]
    | false =>
      have : (a :: l).filter keep = l.filter keep := List.filter_cons_of_neg (by simp [hk])
      simp only [Bool.false_eq_true, if_false, ih, this]
/-- a comprehension without a test -/
theorem lc_all {A : Type} {gd : Gd} {g : MG} {me : ME} {F : FT} {r : EV} {enc : A → D} {M : Mem} (hgd : Gd.ok gd M = true) (val : A → D) (l : List A)
    (h : ∀ a ∈ l, ∃ r1, g F (enc a) r M = .ok r1 M ∧ me F r1 M = .ok (val a) M) : lcG gd g mYes me F r (l.map enc) M = .ok (l.map val) M := by
  have := lc_ok (mt := mYes) (g := g) (me := me) (F := F) (r := r) (enc := enc) hgd (fun _ => true) val l fun a ha => by
    obtain ⟨r1, e1, e2⟩ := h a ha
    exact ⟨r1, e1, rfl, fun _ => e2⟩
  rw [this]
  congr 2
  rw [List.filter_eq_self.mpr (fun _ _ => rfl)]
/-! while -/
inductive Nx (St R : Type) where
  | stop | ret (x : R) | go (s : St)
def iterN {St R : Type} (nx : St → Nx St R) : Nat → St → Option (Sum R St)
  | 0, _ => none
  | n + 1, s => match nx s with
    | .stop => some (.inr s)
    | .ret x => some (.inl x)
    | .go s' => iterN nx n s'
theorem while_ok {St R : Type} {c : MT} {b : MS} {F : FT} (I : St → EV → Mem → Prop) (Out : R → Fl → Mem → Prop) (nx : St → Nx St R)
    (h : ∀ s r M, I s r M → match nx s with
      | .stop => c F r M = .ok false M
      | .ret x => ∃ M1, c F r M = .ok true M1 ∧ TurnOk I Out (b F r M1) (.inl x)
      | .go s' => ∃ M1, c F r M = .ok true M1 ∧ TurnOk I Out (b F r M1) (.inr s')) : ∀ (N K : Nat) (s : St) (r : EV) (M : Mem) (res : Sum R St), N ≤ K → I s r M → iterN nx N s = some res → LoopOk I Out (whileN c b F K r M) res
  | 0, K, s, r, M, res, _, _, e => by cases e
  | N + 1, 0, s, r, M, res, hk, _, e => by omega
  | N + 1, K + 1, s, r, M, res, hk, i, e => by
    have h1 := h s r M i
    simp only [iterN] at e
    cases hn : nx s with
    | stop =>
      rw [hn] at h1 e
      cases e
      exact ⟨r, M, by simp only [whileN, h1, Res.toS_ok, Bool.false_eq_true, if_false], i⟩
    | ret x =>
      rw [hn] at h1 e
      cases e
      obtain ⟨M1, e1, f, M', e2, o, hf⟩ := h1
      refine ⟨f, M', ?_, o, hf⟩
      simp only [whileN, e1, Res.toS_ok, if_true, e2, Res.bind_ok]
      cases f <;> first | rfl | exact hf.elim
    | go s' =>
      rw [hn] at h1 e
      obtain ⟨M1, e1, r', M', e2, i'⟩ := h1
      have ih := while_ok I Out nx h N K s' r' M' res (by omega) i' e
      rcases e2 with e2 | e2 <;> (simp only [whileN, e1, Res.toS_ok, if_true, e2, Res.bind_ok]; exact ih)
end RI

set_option maxHeartbeats 4000000
/-! a search level by level: the least of the shortest rows of numbers at whose end something is found -/
namespace BF
structure Gr where
  S : Type
  eq : DecidableEq S
  st : S → Int → S
  stop : S → Int → Bool
instance (G : Gr) : DecidableEq G.S := G.eq
abbrev Wt (G : Gr) := G.S × List Int
def scan (G : Gr) : List (Wt G × Int) → List G.S → List (Wt G) → Sum (List Int) (List G.S × List (Wt G))
  | [], seen, later => .inr (seen, later)
  | (q, p) :: cs, seen, later =>
    if G.stop q.1 p = true then .inl (q.2 ++ [p])
    else if G.st q.1 p ∈ seen then scan G cs seen later
    else scan G cs (seen ++ [G.st q.1 p]) (later ++ [(G.st q.1 p, q.2 ++ [p])])
def cands {A : Type} (ps : List Int) : List A → List (A × Int)
  | [] => []
  | q :: qs => ps.map (fun p => (q, p)) ++ cands ps qs
theorem mem_cands {A : Type} {ps : List Int} {c : A × Int} : ∀ {wt : List A}, c ∈ cands ps wt ↔ c.1 ∈ wt ∧ c.2 ∈ ps
  | [] => by simp [cands]
  | q :: qs => by
    simp only [cands, List.mem_append, List.mem_map, mem_cands (wt := qs), List.mem_cons]
    constructor
    · rintro (⟨p, hp, rfl⟩ | ⟨h1, h2⟩)
      · exact ⟨.inl rfl, hp⟩
      · exact ⟨.inr h1, h2⟩
    · rintro ⟨h1 | h1, h2⟩
      · exact .inl ⟨c.2, h2, by rw [← h1]⟩
      · exact .inr ⟨h1, h2⟩
theorem scan_app (G : Gr) : ∀ (a b : List (Wt G × Int)) (seen : List G.S) (later : List (Wt G)), scan G (a ++ b) seen later = match scan G a seen later with
    | .inl r => .inl r
    | .inr z => scan G b z.1 z.2
  | [], b, seen, later => rfl
  | (q, p) :: a, b, seen, later => by
    simp only [List.cons_append, scan]
    split
    · rfl
    · split
      · exact scan_app G a b _ _
      · exact scan_app G a b _ _
def bfs (G : Gr) (ps : List Int) : Nat → List G.S → List (Wt G) → Option (Option (List Int))
  | 0, _, _ => none
  | N + 1, seen, wt => if wt.isEmpty = true then some none else match scan G (cands ps wt) seen [] with
    | .inl r => some (some r)
    | .inr z => bfs G ps N z.1 z.2
/-! what stays -/
structure Good (G : Gr) (P : G.S → Prop) (L : Nat) (seen : List G.S) (later : List (Wt G)) : Prop where
  nd : seen.Nodup
  p : ∀ a ∈ seen, P a
  l : ∀ q ∈ later, P q.1 ∧ q.2.length = L
  le : later.length ≤ seen.length
theorem scan_good {G : Gr} {P : G.S → Prop} {L : Nat} : ∀ (cs : List (Wt G × Int)) (seen : List G.S) (later : List (Wt G)) (z : List G.S × List (Wt G)),
    (∀ c ∈ cs, P (G.st c.1.1 c.2) ∧ c.1.2.length = L) → Good G P (L + 1) seen later → scan G cs seen later = .inr z → Good G P (L + 1) z.1 z.2
  | [], seen, later, z, _, g, h => by cases h; exact g
  | (q, p) :: cs, seen, later, z, hc, g, h => by
    have hc' : ∀ c ∈ cs, P (G.st c.1.1 c.2) ∧ c.1.2.length = L := fun c h => hc c (List.mem_cons_of_mem _ h)
    obtain ⟨hP, hL⟩ := hc (q, p) List.mem_cons_self
    simp only [scan] at h
    split at h
    · cases h
    · split at h
      · exact scan_good cs seen later z hc' g h
      · rename_i hn
        refine scan_good cs _ _ z hc' ⟨?_, ?_, ?_, ?_⟩ h
        · rw [List.nodup_append]
          refine ⟨g.nd, by simp, ?_⟩
          intro x hx y hy e
          simp only [List.mem_singleton] at hy
          subst hy; subst e; exact hn hx
        · intro b hb
          rcases List.mem_append.mp hb with hb | hb
          · exact g.p b hb
          · simp only [List.mem_singleton] at hb
            subst hb; exact hP
        · intro q' hq
          rcases List.mem_append.mp hq with hq | hq
          · exact g.l q' hq
          · simp only [List.mem_singleton] at hq
            subst hq; exact ⟨hP, by simp [hL]⟩
        · have := g.le
          simp; omega
theorem scan_grow {G : Gr} : ∀ (cs : List (Wt G × Int)) (seen : List G.S) (later : List (Wt G)) (z : List G.S × List (Wt G)), scan G cs seen later = .inr z → z.1.length + later.length = seen.length + z.2.length
  | [], seen, later, z, h => by cases h; rfl
  | (q, p) :: cs, seen, later, z, h => by
    simp only [scan] at h
    split at h
    · cases h
    · split at h
      · exact scan_grow cs seen later z h
      · have := scan_grow cs _ _ z h
        simp at this; omega
/-- closed under steps, and how many there are -/
structure Bd (G : Gr) (ps : List Int) (P : G.S → Prop) (K : Nat) : Prop where
  st : ∀ a p, P a → p ∈ ps → P (G.st a p)
  card : ∀ l : List G.S, l.Nodup → (∀ a ∈ l, P a) → l.length ≤ K
theorem cands_good {G : Gr} {ps : List Int} {P : G.S → Prop} {K L : Nat} (B : Bd G ps P K) {wt : List (Wt G)} (hw : ∀ q ∈ wt, P q.1 ∧ q.2.length = L) : ∀ c ∈ cands ps wt, P (G.st c.1.1 c.2) ∧ c.1.2.length = L := fun c hc => by
  obtain ⟨h1, h2⟩ := mem_cands.mp hc
  exact ⟨B.st _ _ (hw _ h1).1 h2, (hw _ h1).2⟩
theorem good0 {G : Gr} {P : G.S → Prop} {L : Nat} {seen : List G.S} (nd : seen.Nodup) (hP : ∀ a ∈ seen, P a) : Good G P (L + 1) seen [] := ⟨nd, hP, (fun q hq => by cases hq), Nat.zero_le _⟩
theorem bfs_ends {G : Gr} {ps : List Int} {P : G.S → Prop} {K : Nat} (B : Bd G ps P K) : ∀ (N L : Nat) (seen : List G.S) (wt : List (Wt G)), seen.Nodup → (∀ a ∈ seen, P a) → (∀ q ∈ wt, P q.1 ∧ q.2.length = L) → K + 1 < seen.length + N → ∃ res, bfs G ps N seen wt = some res
  | 0, L, seen, wt, nd, hP, hw, h => by
    have := B.card seen nd hP
    omega
  | N + 1, L, seen, wt, nd, hP, hw, h => by
    unfold bfs
    cases wt with
    | nil => exact ⟨none, rfl⟩
    | cons q qs =>
      simp only [List.isEmpty_cons, Bool.false_eq_true, if_false]
      cases e : scan G (cands ps (q :: qs)) seen [] with
      | inl r => exact ⟨some r, rfl⟩
      | inr z =>
        have g' := scan_good _ seen [] z (cands_good B hw) (good0 nd hP) e
        have gr := scan_grow _ _ _ _ e
        simp at gr
        obtain ⟨s, l⟩ := z
        cases l with
        | nil =>
          have hc := B.card seen nd hP
          cases N with
          | zero => omega
          | succ N => exact ⟨none, rfl⟩
        | cons q' qs' =>
          simp at gr
          exact bfs_ends B N (L + 1) s (q' :: qs') g'.nd g'.p g'.l (by omega)
/-! what is found -/
def run (G : Gr) : List Int → G.S → G.S
  | [], s => s
  | u :: us, s => run G us (G.st s u)
theorem run_snoc (G : Gr) : ∀ (us : List Int) (p : Int) (s : G.S), run G (us ++ [p]) s = G.st (run G us s) p
  | [], p, s => rfl
  | u :: us, p, s => run_snoc G us p (G.st s u)
theorem scan_inl {G : Gr} : ∀ (cs : List (Wt G × Int)) (seen : List G.S) (later : List (Wt G)) (r : List Int), scan G cs seen later = .inl r → ∃ c ∈ cs, G.stop c.1.1 c.2 = true ∧ r = c.1.2 ++ [c.2]
  | [], _, _, r, h => by cases h
  | (q, p) :: cs, seen, later, r, h => by
    simp only [scan] at h
    split at h
    · rename_i hs
      cases h
      exact ⟨(q, p), List.mem_cons_self, hs, rfl⟩
    · split at h
      · obtain ⟨c, hc, h'⟩ := scan_inl cs _ _ r h
        exact ⟨c, List.mem_cons_of_mem _ hc, h'⟩
      · obtain ⟨c, hc, h'⟩ := scan_inl cs _ _ r h
        exact ⟨c, List.mem_cons_of_mem _ hc, h'⟩
/-- Q: of states and the rows to them -/
theorem scan_tr {G : Gr} {Q : Wt G → Prop} : ∀ (cs : List (Wt G × Int)) (seen : List G.S) (later : List (Wt G)) (z : List G.S × List (Wt G)), (∀ c ∈ cs, G.stop c.1.1 c.2 = false → Q (G.st c.1.1 c.2, c.1.2 ++ [c.2])) → (∀ q ∈ later, Q q) → scan G cs seen later = .inr z → ∀ q ∈ z.2, Q q
  | [], seen, later, z, _, hl, h => by cases h; exact hl
  | (q, p) :: cs, seen, later, z, hc, hl, h => by
    have hc' := fun c h => hc c (List.mem_cons_of_mem _ h)
    simp only [scan] at h
    split at h
    · cases h
    · rename_i hs
      split at h
      · exact scan_tr cs seen later z hc' hl h
      · refine scan_tr cs _ _ z hc' ?_ h
        intro q' hq
        rcases List.mem_append.mp hq with hq | hq
        · exact hl q' hq
        · simp only [List.mem_singleton] at hq
          subst hq
          exact hc (q, p) List.mem_cons_self (by simpa using hs)
theorem bfs_tr {G : Gr} {ps : List Int} {Q : Wt G → Prop} (hQ : ∀ q p, Q q → p ∈ ps → G.stop q.1 p = false → Q (G.st q.1 p, q.2 ++ [p])) : ∀ (N : Nat) (seen : List G.S) (wt : List (Wt G)) (r : List Int), (∀ q ∈ wt, Q q) → bfs G ps N seen wt = some (some r) → ∃ q p, Q q ∧ p ∈ ps ∧ G.stop q.1 p = true ∧ r = q.2 ++ [p]
  | 0, _, _, _, _, h => by cases h
  | N + 1, seen, wt, r, hw, h => by
    unfold bfs at h
    split at h
    · cases h
    · cases e : scan G (cands ps wt) seen [] with
      | inl r' =>
        rw [e] at h
        cases h
        obtain ⟨c, hc, h1, h2⟩ := scan_inl _ _ _ _ e
        obtain ⟨m1, m2⟩ := mem_cands.mp hc
        exact ⟨c.1, c.2, hw _ m1, m2, h1, h2⟩
      | inr z =>
        rw [e] at h
        refine bfs_tr hQ N z.1 z.2 r ?_ h
        exact scan_tr _ _ _ z (fun c hc hs => hQ c.1 c.2 (hw _ (mem_cands.mp hc).1) (mem_cands.mp hc).2 hs) (fun q hq => by cases hq) e
/-- an invariant under which nothing is found -/
theorem bfs_none {G : Gr} {ps : List Int} {I : G.S → Prop} (hI : ∀ s p, I s → p ∈ ps → I (G.st s p) ∧ G.stop s p = false) (N : Nat) (seen : List G.S) (wt : List (Wt G)) (res : Option (List Int)) (hw : ∀ q ∈ wt, I q.1) (h : bfs G ps N seen wt = some res) : res = none := by
  cases res with
  | none => rfl
  | some r =>
    obtain ⟨q, p, h1, h2, h3, _⟩ := bfs_tr (Q := fun q => I q.1) (fun q p hq hp _ => (hI q.1 p hq hp).1) N seen wt r hw h
    rw [(hI q.1 p h1 h2).2] at h3
    cases h3
/-! the order of rows -/
def lle : List Int → List Int → Bool
  | [], _ => true
  | _ :: _, [] => false
  | x :: xs, y :: ys => decide (x < y) || (decide (x = y) && lle xs ys)
theorem lle_refl : ∀ a, lle a a = true
  | [] => rfl
  | x :: xs => by simp [lle, lle_refl xs]
theorem lle_trans : ∀ a b c, lle a b = true → lle b c = true → lle a c = true
  | [], _, _, _, _ => rfl
  | x :: xs, [], _, h, _ => by simp [lle] at h
  | x :: xs, y :: ys, [], _, h => by simp [lle] at h
  | x :: xs, y :: ys, z :: zs, h1, h2 => by
    simp only [lle, Bool.or_eq_true, Bool.and_eq_true, decide_eq_true_eq] at h1 h2 ⊢
    rcases h1 with h1 | ⟨h1, h1'⟩
    · rcases h2 with h2 | ⟨h2, _⟩
      · left; omega
      · left; omega
    · rcases h2 with h2 | ⟨h2, h2'⟩
      · left; omega
      · right; exact ⟨by omega, lle_trans xs ys zs h1' h2'⟩
theorem lle_snoc : ∀ (a b : List Int) (p : Int), lle a b = true → a.length = b.length → lle (a ++ [p]) (b ++ [p]) = true
  | [], [], p, _, _ => by simp [lle]
  | [], _ :: _, _, _, h => by simp at h
  | _ :: _, [], _, _, h => by simp at h
  | x :: xs, y :: ys, p, h, hl => by
    simp only [lle, List.cons_append, Bool.or_eq_true, Bool.and_eq_true, decide_eq_true_eq] at h ⊢
    rcases h with h | ⟨h1, h2⟩
    · exact .inl h
    · exact .inr ⟨h1, lle_snoc xs ys p h2 (by simpa using hl)⟩
theorem lle_snoc2 : ∀ (a : List Int) (p q : Int), p ≤ q → lle (a ++ [p]) (a ++ [q]) = true
  | [], p, q, h => by
    simp only [List.nil_append, lle, Bool.or_eq_true, Bool.and_eq_true, decide_eq_true_eq, and_true]
    omega
  | x :: xs, p, q, h => by simp [lle, lle_snoc2 xs p q h]
/-- before, strictly, of rows of one length: all that is put behind stays so -/
def llt (a b : List Int) : Prop := lle a b = true ∧ a ≠ b
theorem llt_snoc : ∀ (a b : List Int) (p q : Int), llt a b → a.length = b.length → lle (a ++ [p]) (b ++ [q]) = true
  | [], [], p, q, h, _ => absurd rfl h.2
  | [], _ :: _, _, _, _, h => by simp at h
  | _ :: _, [], _, _, _, h => by simp at h
  | x :: xs, y :: ys, p, q, ⟨h, hn⟩, hl => by
    simp only [lle, List.cons_append, Bool.or_eq_true, Bool.and_eq_true, decide_eq_true_eq] at h ⊢
    rcases h with h | ⟨h1, h2⟩
    · exact .inl h
    · exact .inr ⟨h1, llt_snoc xs ys p q ⟨h2, fun e => hn (by rw [h1, e])⟩ (by simpa using hl)⟩
theorem lle_anti : ∀ a b, lle a b = true → lle b a = true → a = b
  | [], [], _, _ => rfl
  | [], _ :: _, _, h => by simp [lle] at h
  | _ :: _, [], h, _ => by simp [lle] at h
  | x :: xs, y :: ys, h1, h2 => by
    simp only [lle, Bool.or_eq_true, Bool.and_eq_true, decide_eq_true_eq] at h1 h2
    have : x = y := by omega
    subst this
    have e1 : lle xs ys = true := by rcases h1 with h | h; omega; exact h.2
    have e2 : lle ys xs = true := by rcases h2 with h | h; omega; exact h.2
    rw [lle_anti xs ys e1 e2]
abbrev rowOf {G : Gr} (c : Wt G × Int) : List Int := c.1.2 ++ [c.2]
/-- rows, all of one length, ascending -/
abbrev Asc (l : List (List Int)) : Prop := l.Pairwise llt
theorem cands_asc {G : Gr} {ps : List Int} (hps : ps.Pairwise (· < ·)) {L : Nat} : ∀ {wt : List (Wt G)}, (∀ q ∈ wt, q.2.length = L) → Asc (wt.map (·.2)) → Asc ((cands ps wt).map rowOf)
  | [], _, _ => List.Pairwise.nil
  | q :: qs, hl, ha => by
    simp only [cands, List.map_append, List.map_map]
    simp only [List.map_cons, Asc, List.pairwise_cons] at ha
    show List.Pairwise llt _
    rw [List.pairwise_append]
    refine ⟨?_, cands_asc hps (fun q h => hl q (List.mem_cons_of_mem _ h)) ha.2, ?_⟩
    · rw [List.pairwise_map]
      refine hps.imp ?_
      intro a b hab
      refine ⟨lle_snoc2 q.2 a b (by omega), fun e => ?_⟩
      have := List.append_cancel_left e
      simp at this
      omega
    · intro x hx y hy
      simp only [List.mem_map, Function.comp] at hx hy
      obtain ⟨p, hp, rfl⟩ := hx
      obtain ⟨c, hc, rfl⟩ := hy
      have hm := (mem_cands.mp hc).1
      have h1 := ha.1 c.1.2 (List.mem_map.mpr ⟨c.1, hm, rfl⟩)
      have h2 : q.2.length = c.1.2.length := by rw [hl q List.mem_cons_self, hl _ (List.mem_cons_of_mem _ hm)]
      refine ⟨llt_snoc _ _ _ _ h1 h2, fun e => ?_⟩
      have := List.append_inj_left e h2
      exact h1.2 this
/-- what a scan leaves: sorted; each candidate's state was seen or is there with a row not behind -/
theorem scan_least {G : Gr} : ∀ (cs : List (Wt G × Int)) (seen0 seen : List G.S) (later : List (Wt G)) (z : List G.S × List (Wt G)), Asc (later.map (·.2) ++ cs.map rowOf) → (∀ b ∈ seen, b ∈ seen0 ∨ ∃ q ∈ later, q.1 = b) → scan G cs seen later = .inr z →
    Asc (z.2.map (·.2)) ∧ (∀ q ∈ later, q ∈ z.2) ∧ (∀ b ∈ seen, b ∈ z.1) ∧ (∀ b ∈ z.1, b ∈ seen0 ∨ ∃ q ∈ z.2, q.1 = b) ∧ ∀ c ∈ cs, G.stop c.1.1 c.2 = false ∧ G.st c.1.1 c.2 ∈ z.1 ∧ (G.st c.1.1 c.2 ∈ seen0 ∨ ∃ q ∈ z.2, q.1 = G.st c.1.1 c.2 ∧ lle q.2 (rowOf c) = true)
  | [], seen0, seen, later, z, ha, hs, h => by
    cases h
    exact ⟨by simpa using ha, fun q h => h, fun b h => h, hs, fun c h => by cases h⟩
  | (q, p) :: cs, seen0, seen, later, z, ha, hs, h => by
    simp only [scan] at h
    split at h
    · cases h
    · rename_i hstop
      have hstop' : G.stop q.1 p = false := by simpa using hstop
      have ha0 : Asc (later.map (·.2) ++ rowOf (q, p) :: cs.map rowOf) := ha
      split at h
      · rename_i hin
        have ha' : Asc (later.map (·.2) ++ cs.map rowOf) := ha0.sublist (List.Sublist.append_left (List.sublist_cons_self _ _) _)
        obtain ⟨h1, h2, h3, h4, h5⟩ := scan_least cs seen0 seen later z ha' hs h
        refine ⟨h1, h2, h3, h4, fun c hc => ?_⟩
        rcases List.mem_cons.mp hc with rfl | hc
        · refine ⟨hstop', h3 _ hin, ?_⟩
          rcases hs _ hin with hb | ⟨q', hq', e⟩
          · exact .inl hb
          · refine .inr ⟨q', h2 q' hq', e, ?_⟩
            have := (List.pairwise_append.mp ha0).2.2 q'.2 (List.mem_map.mpr ⟨q', hq', rfl⟩) (rowOf (q, p)) List.mem_cons_self
            exact this.1
        · exact h5 c hc
      · rename_i hin
        have ha' : Asc ((later ++ [(G.st q.1 p, q.2 ++ [p])]).map (·.2) ++ cs.map rowOf) := by
          simpa [List.append_assoc] using ha0
        have hs' : ∀ b ∈ seen ++ [G.st q.1 p], b ∈ seen0 ∨ ∃ q' ∈ later ++ [(G.st q.1 p, q.2 ++ [p])], q'.1 = b := by
          intro b hb
          rcases List.mem_append.mp hb with hb | hb
          · rcases hs b hb with hb | ⟨q', hq', e⟩
            · exact .inl hb
            · exact .inr ⟨q', List.mem_append_left _ hq', e⟩
          · simp only [List.mem_singleton] at hb
            exact .inr ⟨_, List.mem_append_right _ (List.mem_singleton.mpr rfl), hb.symm⟩
        obtain ⟨h1, h2, h3, h4, h5⟩ := scan_least cs seen0 _ _ z ha' hs' h
        refine ⟨h1, fun q' hq' => h2 q' (List.mem_append_left _ hq'), fun b hb => h3 b (List.mem_append_left _ hb), h4, fun c hc => ?_⟩
        rcases List.mem_cons.mp hc with rfl | hc
        · exact ⟨hstop', h3 _ (List.mem_append_right _ (List.mem_singleton.mpr rfl)), .inr ⟨_, h2 _ (List.mem_append_right _ (List.mem_singleton.mpr rfl)), rfl, lle_refl _⟩⟩
        · exact h5 c hc
theorem scan_inl_least {G : Gr} : ∀ (cs : List (Wt G × Int)) (seen : List G.S) (later : List (Wt G)) (r : List Int), Asc (cs.map rowOf) → scan G cs seen later = .inl r → ∀ c ∈ cs, G.stop c.1.1 c.2 = true → lle r (rowOf c) = true
  | [], _, _, _, _, h => by cases h
  | (q, p) :: cs, seen, later, r, ha, h => by
    simp only [List.map_cons, Asc, List.pairwise_cons] at ha
    simp only [scan] at h
    intro c hc hs
    split at h
    · cases h
      rcases List.mem_cons.mp hc with rfl | hc
      · exact lle_refl _
      · exact (ha.1 _ (List.mem_map.mpr ⟨c, hc, rfl⟩)).1
    · rename_i hn
      rcases List.mem_cons.mp hc with rfl | hc
      · exact absurd hs hn
      · split at h
        · exact scan_inl_least cs _ _ r ha.2 h c hc hs
        · exact scan_inl_least cs _ _ r ha.2 h c hc hs
/-- what is found is not longer than any row that finds, and not behind those of its length -/
theorem bfs_least {G : Gr} {ps : List Int} (hps : ps.Pairwise (· < ·)) (s0 : G.S) (us0 : List Int) (p0 : Int) (hus : ∀ u ∈ us0, u ∈ ps) (hp0 : p0 ∈ ps) (hst : G.stop (run G us0 s0) p0 = true) : ∀ (N L : Nat) (seen : List G.S) (wt : List (Wt G)) (res : Option (List Int)),
    L ≤ us0.length → (∀ b ∈ seen, (∃ q ∈ wt, q.1 = b) ∨ ∀ p ∈ ps, G.stop b p = false ∧ G.st b p ∈ seen) → (∀ q ∈ wt, q.2.length = L) → Asc (wt.map (·.2)) →
    (∀ us, us.length < L → (∀ u ∈ us, u ∈ ps) → run G us s0 ∈ seen ∧ ∀ p ∈ ps, G.stop (run G us s0) p = false) →
    (∀ us, us.length = L → (∀ u ∈ us, u ∈ ps) → run G us s0 ∈ seen ∧ ((∀ p ∈ ps, G.stop (run G us s0) p = false) ∧ (∀ p ∈ ps, G.st (run G us s0) p ∈ seen) ∨ ∃ q ∈ wt, q.1 = run G us s0 ∧ lle q.2 us = true)) →
    bfs G ps N seen wt = some res → ∃ r, res = some r ∧ (r.length < us0.length + 1 ∨ (r.length = us0.length + 1 ∧ lle r (us0 ++ [p0]) = true))
  | 0, L, seen, wt, res, _, _, _, _, _, _, h => by cases h
  | N + 1, L, seen, wt, res, hL, hx, hl, ha, hr, hr', h => by
    unfold bfs at h
    have hlen : ∀ r, scan G (cands ps wt) seen [] = .inl r → r.length = L + 1 := by
      intro r e
      obtain ⟨c, hc, _, rfl⟩ := scan_inl _ _ _ _ e
      simp [hl _ (mem_cands.mp hc).1]
    cases hwt : wt with
    | nil =>
      exfalso
      subst hwt
      have cl : ∀ (us : List Int) (s : G.S), (∀ u ∈ us, u ∈ ps) → s ∈ seen → run G us s ∈ seen := by
        intro us
        induction us with
        | nil => intro s _ hm; exact hm
        | cons u us ih =>
          intro s hu hm
          rcases hx _ hm with ⟨q, hq, _⟩ | hxp
          · cases hq
          · exact ih _ (fun x hx => hu x (List.mem_cons_of_mem _ hx)) (hxp u (hu u List.mem_cons_self)).2
      have hi : s0 ∈ seen := by
        cases hL0 : L with
        | zero => exact (hr' [] (by rw [hL0]; rfl) (fun u hu => by cases hu)).1
        | succ L' => exact (hr [] (by rw [hL0]; simp) (fun u hu => by cases hu)).1
      rcases hx _ (cl us0 s0 hus hi) with ⟨q, hq, _⟩ | hxp
      · cases hq
      · rw [(hxp p0 hp0).1] at hst; cases hst
    | cons q0 qs0 =>
      rw [hwt] at h
      simp only [List.isEmpty_cons, Bool.false_eq_true, if_false] at h
      rw [← hwt] at h
      have hasc := cands_asc hps hl ha
      cases e : scan G (cands ps wt) seen [] with
      | inl r =>
        rw [e] at h
        cases h
        refine ⟨r, rfl, ?_⟩
        have := hlen r e
        by_cases hlt : L < us0.length
        · left; omega
        · right
          have hLe : us0.length = L := by omega
          refine ⟨by omega, ?_⟩
          rcases (hr' us0 hLe hus).2 with ⟨hn, _⟩ | ⟨q, hq, e1, e2⟩
          · rw [hn p0 hp0] at hst; cases hst
          · have h1 := scan_inl_least _ _ _ r hasc e (q, p0) (mem_cands.mpr ⟨hq, hp0⟩) (by rw [e1]; exact hst)
            exact lle_trans _ _ _ h1 (lle_snoc _ _ _ e2 (by rw [hl q hq, hLe]))
      | inr z =>
        rw [e] at h
        have hasc' : Asc (([] : List (Wt G)).map (·.2) ++ (cands ps wt).map rowOf) := hasc
        obtain ⟨k1, k2, k3, k4, k5⟩ := scan_least (cands ps wt) seen seen [] z hasc' (fun b hb => .inl hb) e
        have hwt' : ∀ q ∈ wt, ∀ p ∈ ps, G.stop q.1 p = false ∧ G.st q.1 p ∈ z.1 ∧ (G.st q.1 p ∈ seen ∨ ∃ q' ∈ z.2, q'.1 = G.st q.1 p ∧ lle q'.2 (q.2 ++ [p]) = true) := fun q hq p hp => k5 (q, p) (mem_cands.mpr ⟨hq, hp⟩)
        have hall : ∀ b ∈ seen, ∀ p ∈ ps, G.stop b p = false ∧ G.st b p ∈ z.1 := by
          intro b hb p hp
          rcases hx b hb with ⟨q', hq', rfl⟩ | hxp
          · exact ⟨(hwt' q' hq' p hp).1, (hwt' q' hq' p hp).2.1⟩
          · exact ⟨(hxp p hp).1, k3 _ (hxp p hp).2⟩
        have hL' : L + 1 ≤ us0.length := by
          rcases Nat.lt_or_ge L us0.length with h' | h'
          · exact h'
          · have := (hall _ (hr' us0 (by omega) hus).1 p0 hp0).1
            rw [this] at hst; cases hst
        refine bfs_least hps s0 us0 p0 hus hp0 hst N (L + 1) z.1 z.2 res hL' ?_ ?_ k1 ?_ ?_ h
        · intro b hb
          rcases k4 b hb with hb | hb
          · exact .inr (hall b hb)
          · exact .inl hb
        · exact scan_tr (Q := fun q => q.2.length = L + 1) _ _ _ z (fun c hc _ => by
            simp [hl _ (mem_cands.mp hc).1]) (fun q hq => by cases hq) e
        · intro us hu hup
          rcases Nat.lt_or_ge us.length L with h' | h'
          · obtain ⟨g1, g2⟩ := hr us h' hup
            exact ⟨k3 _ g1, g2⟩
          · obtain ⟨g1, g2⟩ := hr' us (by omega) hup
            exact ⟨k3 _ g1, fun p hp => (hall _ g1 p hp).1⟩
        · intro us hu hup
          obtain ⟨us', p, rfl⟩ : ∃ us' p, us = us' ++ [p] := by
            rcases List.eq_nil_or_concat us with rfl | ⟨a, b, rfl⟩
            · simp at hu
            · exact ⟨a, b, by simp⟩
          simp only [List.length_append, List.length_singleton] at hu
          have hup' : ∀ u ∈ us', u ∈ ps := fun u hu => hup u (by simp [hu])
          have hp : p ∈ ps := hup p (by simp)
          rw [run_snoc]
          obtain ⟨g1, g2⟩ := hr' us' (by omega) hup'
          refine ⟨(hall _ g1 p hp).2, ?_⟩
          have old : G.st (run G us' s0) p ∈ seen → (∀ p' ∈ ps, G.stop (G.st (run G us' s0) p) p' = false) ∧ ∀ p' ∈ ps, G.st (G.st (run G us' s0) p) p' ∈ z.1 := fun hm => ⟨fun p' hp' => (hall _ hm p' hp').1, fun p' hp' => (hall _ hm p' hp').2⟩
          rcases g2 with ⟨g2, g3⟩ | ⟨q, hq, e1, e2⟩
          · exact .inl (old (g3 p hp))
          · rw [← e1] at old ⊢
            rcases (hwt' q hq p hp).2.2 with hm | ⟨q', hq', e3, e4⟩
            · exact .inl (old hm)
            · exact .inr ⟨q', hq', e3, lle_trans _ _ _ e4 (lle_snoc _ _ _ e2 (by rw [hl q hq]; omega))⟩
theorem bfs_least0 {G : Gr} {ps : List Int} (hps : ps.Pairwise (· < ·)) (s0 : G.S) (us0 : List Int) (p0 : Int) (hus : ∀ u ∈ us0, u ∈ ps) (hp0 : p0 ∈ ps) (hst : G.stop (run G us0 s0) p0 = true) (N : Nat) (res : Option (List Int)) (h : bfs G ps N [s0] [(s0, [])] = some res) : ∃ r, res = some r ∧ (r.length < us0.length + 1 ∨ (r.length = us0.length + 1 ∧ lle r (us0 ++ [p0]) = true)) := by
  refine bfs_least hps s0 us0 p0 hus hp0 hst N 0 [s0] [(s0, [])] res (Nat.zero_le _) ?_ ?_ ?_ ?_ ?_ h
  · intro b hb
    simp only [List.mem_singleton] at hb
    exact .inl ⟨_, List.mem_singleton.mpr rfl, hb.symm⟩
  · intro q hq
    simp only [List.mem_singleton] at hq
    subst hq; rfl
  · simp [Asc]
  · intro us hu; omega
  · intro us hu _
    have : us = [] := List.length_eq_zero_iff.mp hu
    subst this
    exact ⟨by simp [run], .inr ⟨_, List.mem_singleton.mpr rfl, rfl, rfl⟩⟩
theorem bfs_ends0 {G : Gr} {ps : List Int} {P : G.S → Prop} {K : Nat} (B : Bd G ps P K) (s0 : G.S) (h0 : P s0) (N : Nat) (hN : K < N) : ∃ res, bfs G ps N [s0] [(s0, [])] = some res :=
  bfs_ends B N 0 _ _ (by simp) (by intro a ha; simp only [List.mem_singleton] at ha; subst ha; exact h0) (by intro q hq; simp only [List.mem_singleton] at hq; subst hq; exact ⟨h0, rfl⟩) (by simp; omega)
end BF

set_option maxHeartbeats 4000000
namespace RI
open PySem L2 PySem.W
/-! ### the order of data, on rows of numbers -/
abbrev klt (a b : List (Int ⊕ List Nat)) : Bool := PyProof.Rows.lexLt PyProof.Rows.itemOrd a b
theorem klt_ii (i j : Int) (r t : List (Int ⊕ List Nat)) : klt (.inl i :: r) (.inl j :: t) = (decide (i < j) || (!decide (j < i) && klt r t)) := PyProof.Rows.lex_cons (O := PyProof.Rows.itemOrd) (Sum.inl i) (Sum.inl j) r t
theorem klt_self (a : List (Int ⊕ List Nat)) : klt a a = false := PyProof.Rows.lex_irrefl (O := PyProof.Rows.itemOrd) a
theorem klt_same (x : Int ⊕ List Nat) (r t : List (Int ⊕ List Nat)) : klt (x :: r) (x :: t) = klt r t := PyProof.Rows.lex_self (O := PyProof.Rows.itemOrd) x r t
abbrev pInts (a : List Int) : List PyData := D.toPs (a.map .int)
theorem toks_ints : ∀ (a b : List Int) (l m : List (Int ⊕ List Nat)), klt (keyToksAll (pInts a) ++ l) (keyToksAll (pInts b) ++ m) = if a = b then klt l m else !BF.lle b a
  | [], [], l, m => by
    simp only [pInts, List.map_nil, D.toPs, keyToksAll, List.cons_append, List.nil_append, klt_same, if_true]
  | [], y :: b, l, m => by
    simp only [pInts, List.map_nil, List.map_cons, D.toPs, keyToksAll, List.cons_append, List.nil_append, klt_ii]
    simp [BF.lle]
  | x :: a, [], l, m => by
    simp only [pInts, List.map_nil, List.map_cons, D.toPs, keyToksAll, List.cons_append, List.nil_append, klt_ii]
    simp [BF.lle]
  | x :: a, y :: b, l, m => by
    have ih := toks_ints a b l m
    simp only [pInts, List.map_cons, D.toPs, D.toP, keyToksAll, keyToks, List.cons_append, List.nil_append, klt_same, klt_ii, BF.lle] at ih ⊢
    rw [ih]
    by_cases h : x = y
    · subst h
      by_cases h' : a = b
      · simp [h']
      · simp [h']
    · by_cases h1 : x < y
      · have h2 : ¬ y < x := by omega
        simp [h, h1, h2, Ne.symm h]
      · have h2 : y < x := by omega
        simp [h, h1, h2]
theorem dlt_ints (a b : List Int) : dataLt (.tuple (pInts a)) (.tuple (pInts b)) = !BF.lle b a := by
  rw [dataLt_tuple]
  have := toks_ints a b [] []
  rw [List.append_nil, List.append_nil] at this
  show klt _ _ = _
  rw [this]
  by_cases h : a = b
  · subst h
    simp [klt_self, BF.lle_refl]
  · rw [if_neg h]
/-- (n, row) <= (m, row) -/
theorem le_pair (n m : Int) (a b : List Int) (M : Mem) : leD (.tup [.int n, .tup (a.map .int)]) (.tup [.int m, .tup (b.map .int)]) M = .ok (.bl (decide (n < m) || (decide (n = m) && BF.lle a b))) M := by
  have hal : alike (D.toP (.tup [.int n, .tup (a.map .int)])) (D.toP (.tup [.int m, .tup (b.map .int)])) = true := by
    have : ∀ a b : List Int, alikeAll (D.toPs (a.map .int)) (D.toPs (b.map .int)) = true := by
      intro a
      induction a with
      | nil => intro b; simp [D.toPs, alikeAll]
      | cons x a ih =>
        intro b
        cases b with
        | nil => simp [D.toPs, alikeAll]
        | cons y b => simp only [List.map_cons, D.toPs, D.toP, alikeAll, alike, ih b, Bool.and_self]
    simp only [D.toP, D.toPs, alike, alikeAll, this, Bool.and_self]
  have hdp : ((D.toP (.tup [.int n, .tup (a.map .int)])).depth.ble 60) = true := by
    have h1 : (D.toP (.tup (a.map .int))).depth ≤ 1 := by
      simp only [D.toP, PyData.depth]
      have := depth_map (fun i : Int => PyData.int i) 0 (fun _ => Nat.zero_le _) a
      rw [toPs_map]
      show PyData.depthAll (a.map fun i => PyData.int i) + 1 ≤ 1
      omega
    apply Nat.ble_eq_true_of_le
    simp only [D.toP, D.toPs, PyData.depth, PyData.depthAll] at h1 ⊢
    omega
  have hlt : dataLt (D.toP (.tup [.int m, .tup (b.map .int)])) (D.toP (.tup [.int n, .tup (a.map .int)])) = (decide (m < n) || (decide (m = n) && !BF.lle a b)) := by
    simp only [D.toP, D.toPs]
    rw [dataLt_tuple]
    show klt _ _ = _
    simp only [keyToksAll, keyToks, List.cons_append, List.nil_append, klt_same, klt_ii]
    have := toks_ints b a [.inl 0] [.inl 0]
    rw [this, klt_self]
    by_cases h : m = n
    · subst h
      by_cases h' : b = a
      · simp [h', BF.lle_refl]
      · simp [h']
    · by_cases h1 : m < n
      · simp [h1]
      · have h2 : n < m := by omega
        simp [h, h1, h2]
  simp only [leD, ordD, derefD, noObj_tup, noObjs_cons, noObj_int, noObjs_ints, noObjs_nil, D.noN, hal, hdp, Bool.and_self, if_true, hlt]
  congr 2
  by_cases h : n = m
  · subst h; simp
  · by_cases h1 : n < m
    · have : ¬ m < n := by omega
      simp [h1, this, Ne.symm h]
    · have : m < n := by omega
      simp [h, h1, this]
end RI

set_option maxHeartbeats 4000000
namespace K76
open PySem PySem.Spec PyProof.Rows L2 RI
def tExs : List Str := ["BadThings", "BadRule", "BadStep"]
def tExm : List (Str × Str × Bool) := []
def tFld : List (Str × Str) := [("House", "rows"), ("House", "kinds"), ("House", "given"), ("House", "way")]
def kd_KINDS : List (List Nat × D) := [([103, 101, 116], (.str [99])), ([112, 117, 116], (.str [99])), ([116, 97, 107, 101], (.str [107])), ([102, 114, 101, 101], (.str [107])), ([115, 101, 110, 100], (.str [112])), ([104, 101, 97, 114], (.str [112])), ([119, 97, 107, 101], (.str [115])), ([119, 97, 105, 116], (.str [115])), ([114, 101, 97, 100], (.str [102])), ([110, 111, 116, 101], (.str [102]))]
def tKds : List (Str × List (List Nat × D)) := [("KINDS", kd_KINDS)]
def topS (i : Nat) : Stmt := PySem.Challenge.pw_stephouse_k76_whole_rights_beside_the_lo.main.body.getD i (.Pass ⟨0, 0, 0, 0⟩)
def topC (i j : Nat) : Stmt := match topS i with | .ClassDef _ _ _ b _ _ _ _ _ _ _ => b.getD j (.Pass ⟨0, 0, 0, 0⟩) | s => s
/-! is_from -/
def n_0 : List Str := ["value", "low", "high"]
def b_0 : MS := (mRet (mAndV (mIsi .int (mVar 0)) (mAndV (mNotV (mIsi .bool (mVar 0))) (mChain leD leD (mVar 1) (mVar 0) (mVar 2)))))
/-! check_things -/
def lg_1_0 : MG := (gN 2)
def lt_1_0 : MT := mYes
def le_1_0 : ME := (mCall 0 (mCons (mVar 2) (mCons (mC (.int 1)) (mCons (mC (.int 2)) mNil))))
def lg_1_1 : MG := (gN 1)
def lt_1_1 : MT := mYes
def le_1_1 : ME := (mCall 0 (mCons (mVar 1) (mCons (mC (.int 0)) (mCons (mC (.int 2)) mNil))))
def n_1 : List Str := ["value", "many", "size"]
def b_1 : MS := (mSeq (mIfS (mOr (mNot (mTru (mIsi .tuple (mVar 0)))) (mOr (mTB (mB (eqD true) (mBl lenX (mCons (mVar 0) mNil)) (mC (.int 5)))) (mNot (mTru (mIsi .tuple (mB ixD (mVar 0) (mC (.int 2))))))))
 (mRse "BadThings")
 mSkip)
 (mSeq (mIfS (mOr (mTB (mB gtD (mBl lenX (mCons (mB ixD (mVar 0) (mC (.int 2))) mNil)) (mC (.int 2)))) (mNot (mTru (mBl allD (mCons (mLc (mSeqI (mB ixD (mVar 0) (mC (.int 2)))) lg_1_0 lt_1_0 le_1_0 [2]) mNil)))))
 (mRse "BadThings")
 mSkip)
 (mIfS (mNot (mTru (mBl allD (mCons (mLc (mSeqI (mTup (mCons (mB ixD (mVar 0) (mC (.int 0))) (mCons (mB ixD (mVar 0) (mC (.int 1))) (mCons (mB ixD (mVar 0) (mC (.int 3))) (mCons (mB ixD (mVar 0) (mC (.int 4))) mNil)))))) lg_1_1 lt_1_1 le_1_1 [1]) mNil))))
 (mRse "BadThings")
 mSkip)))
/-! names_of -/
def lg_2_0 : MG := (gN 2)
def lt_2_0 : MT := mYes
def li_2_0 : MI := (mRng1 (mCons (mB ixD (mVar 1) (mVar 2)) mNil))
def lh_2_0 : MG := (gN 3)
def lu_2_0 : MT := mYes
def le_2_0 : ME := (mJs [(mFmt (mVar 2)), (mFmt (mVar 3))] [])
def n_2 : List Str := ["things", "many", "kind", "number"]
def b_2 : MS := (mSeq (mAsg (mDks [([99], (mB ixD (mVar 0) (mC (.int 0)))), ([102], (mB ixD (mVar 0) (mC (.int 4)))), ([107], (mB ixD (mVar 0) (mC (.int 1)))), ([112], (mBl lenX (mCons (mB ixD (mVar 0) (mC (.int 2))) mNil))), ([115], (mB ixD (mVar 0) (mC (.int 3))))]) (gN 1))
 (mRet (mLc2 (mSeqI (mBl srtX (mCons (mVar 1) mNil))) lg_2_0 lt_2_0 li_2_0 lh_2_0 lu_2_0 le_2_0 [2, 3] [3])))
/-! is_line -/
def n_3 : List Str := ["value", "things", "many", "lines", "word", "rest"]
def b_3 : MS := (mSeq (mIfS (mOr (mNot (mTru (mIsi .tuple (mVar 0)))) (mOr (mTB (mB (eqD false) (mVar 0) (mTup mNil))) (mNot (mTru (mIsi .str (mB ixD (mVar 0) (mC (.int 0))))))))
 (mRet (mC (.bl false)))
 mSkip)
 (mSeq (mPar 4 5 (mCons (mB ixD (mVar 0) (mC (.int 0))) (mCons (mSl (mVar 0) (mPart (mC (.int 1))) mNoPart) mNil)))
 (mSeq (mIfS (mTB (mB (inD false) (mVar 4) (mC (.tup [(.str [109, 97, 114, 107]), (.str [107, 101, 101, 112]), (.str [115, 97, 121]), (.str [115, 116, 111, 112])]))))
 (mRet (mB (eqD false) (mVar 5) (mTup mNil)))
 mSkip)
 (mSeq (mIfS (mTB (mB (eqD false) (mVar 4) (mC (.str [104, 97, 110, 100]))))
 (mSeq (mIfS (mOr (mTB (mB (eqD true) (mBl lenX (mCons (mVar 5) mNil)) (mC (.int 2)))) (mNot (mTru (mIsi .str (mB ixD (mVar 5) (mC (.int 1)))))))
 (mRet (mC (.bl false)))
 mSkip)
 (mRet (mAndV (mCall 0 (mCons (mB ixD (mVar 5) (mC (.int 0))) (mCons (mC (.int 0)) (mCons (mB subD (mVar 2) (mC (.int 1))) mNil)))) (mB (inD false) (mB ixD (mVar 5) (mC (.int 1))) (mCall 2 (mCons (mVar 1) mNil))))))
 mSkip)
 (mSeq (mIfS (mOr (mTB (mB (eqD true) (mBl lenX (mCons (mVar 5) mNil)) (mC (.int 1)))) (mNot (mTru (mCall 0 (mCons (mB ixD (mVar 5) (mC (.int 0))) (mCons (mC (.int 0)) (mCons (mC (.int 10)) mNil)))))))
 (mRet (mC (.bl false)))
 mSkip)
 (mSeq (mIfS (mTB (mB (inD false) (mVar 4) (mC (.tup [(.str [115, 101, 116]), (.str [97, 100, 100])]))))
 (mRet (mB ltD (mB ixD (mVar 5) (mC (.int 0))) (mC (.int 4))))
 mSkip)
 (mSeq (mIfS (mTB (mB (inD false) (mVar 4) (mC (.tup [(.str [122, 101, 114, 111]), (.str [103, 111])]))))
 (mRet (mB leD (mB ixD (mVar 5) (mC (.int 0))) (mVar 3)))
 mSkip)
 (mRet (mAndV (mInKd kd_KINDS false (mVar 4)) (mB (inD false) (mJs [(mFmt (mIxKd kd_KINDS (mVar 4))), (mFmt (mB ixD (mVar 5) (mC (.int 0))))] []) (mCall 2 (mCons (mVar 1) mNil))))))))))))
/-! check_programs -/
def fg_4_0 : MG := (gTp 2 (gsCons (gN 4) (gsCons (gN 5) gsNil)))
def fb_4_0 : MS := (mIfS (mNot (mTru (mCall 3 (mCons (mVar 5) (mCons (mVar 1) (mCons (mBl lenX (mCons (mVar 0) mNil)) (mCons (mBl lenX (mCons (mVar 3) mNil)) mNil)))))))
 mNever
 mSkip)
def fg_4_1 : MG := (gTp 2 (gsCons (gN 2) (gsCons (gN 3) gsNil)))
def fb_4_1 : MS := (mSeq (mIfS (mOr (mNot (mTru (mIsi .tuple (mVar 3)))) (mNot (mTB (mChain leD leD (mC (.int 1)) (mBl lenX (mCons (mVar 3) mNil)) (mC (.int 10))))))
 mNever
 mSkip)
 (mFor (mEnum (mCons (mVar 3) mNil)) fg_4_0 fb_4_0))
def n_4 : List Str := ["value", "things", "number", "program", "at", "line"]
def b_4 : MS := (mSeq (mIfS (mOr (mNot (mTru (mIsi .tuple (mVar 0)))) (mNot (mTB (mChain leD leD (mC (.int 1)) (mBl lenX (mCons (mVar 0) mNil)) (mC (.int 3))))))
 mNever
 mSkip)
 (mFor (mEnum (mCons (mVar 0) mNil)) fg_4_1 fb_4_1))
/-! check_rights -/
def lg_5_0 : MG := (gN 5)
def lt_5_0 : MT := mYes
def le_5_0 : ME := (mAndV (mIsi .str (mVar 5)) (mB (inD false) (mVar 5) (mCall 2 (mCons (mVar 1) mNil))))
def lg_5_1 : MG := (gTp 2 (gsCons (gN 6) (gsCons (gN 7) gsNil)))
def lt_5_1 : MT := mYes
def le_5_1 : ME := (mB ltD (mVar 6) (mVar 7))
def fg_5_2 : MG := (gTp 2 (gsCons (gN 3) (gsCons (gN 4) gsNil)))
def fb_5_2 : MS := (mSeq (mIfS (mOr (mNot (mTru (mIsi .tuple (mVar 4)))) (mNot (mTru (mBl allD (mCons (mLc (mSeqI (mVar 4)) lg_5_0 lt_5_0 le_5_0 [5]) mNil)))))
 mNever
 mSkip)
 (mIfS (mNot (mTru (mBl allD (mCons (mLc (mZip (mCons (mVar 4) (mCons (mSl (mVar 4) (mPart (mC (.int 1))) mNoPart) mNil))) lg_5_1 lt_5_1 le_5_1 [6, 7]) mNil))))
 mNever
 mSkip))
def n_5 : List Str := ["value", "things", "many", "number", "own", "name", "one", "other"]
def b_5 : MS := (mSeq (mIfS (mOr (mNot (mTru (mIsi .tuple (mVar 0)))) (mTB (mB (eqD true) (mBl lenX (mCons (mVar 0) mNil)) (mVar 2))))
 mNever
 mSkip)
 (mFor (mEnum (mCons (mVar 0) mNil)) fg_5_2 fb_5_2))
/-! check_rule -/
def lg_6_0 : MG := (gN 1)
def lt_6_0 : MT := mYes
def le_6_0 : ME := (mIsi .str (mVar 1))
def n_6 : List Str := ["value", "word"]
def b_6 : MS := (mSeq (mIfS (mOr (mNot (mTru (mIsi .tuple (mVar 0)))) (mOr (mTB (mB (eqD true) (mBl lenX (mCons (mVar 0) mNil)) (mC (.int 2)))) (mNot (mTru (mBl allD (mCons (mLc (mSeqI (mVar 0)) lg_6_0 lt_6_0 le_6_0 [1]) mNil))))))
 (mRse "BadRule")
 mSkip)
 (mIfS (mOr (mTB (mB (inD true) (mB ixD (mVar 0) (mC (.int 0))) (mC (.tup [(.str [97, 110, 121]), (.str [114, 105, 110, 103]), (.str [114, 97, 110, 107]), (.str [108, 101, 110, 116])])))) (mTB (mB (inD true) (mB ixD (mVar 0) (mC (.int 1))) (mC (.tup [(.str [111, 119, 110]), (.str [97, 108, 108])])))))
 (mRse "BadRule")
 mSkip))
/-! thing_of -/
def n_7 : List Str := ["line"]
def b_7 : MS := (mSeq (mIfS (mTB (mB (eqD false) (mB ixD (mVar 0) (mC (.int 0))) (mC (.str [104, 97, 110, 100]))))
 (mRet (mB ixD (mVar 0) (mC (.int 2))))
 mSkip)
 (mRet (mIf (mTB (mInKd kd_KINDS false (mB ixD (mVar 0) (mC (.int 0))))) (mJs [(mFmt (mIxKd kd_KINDS (mB ixD (mVar 0) (mC (.int 0))))), (mFmt (mB ixD (mVar 0) (mC (.int 1))))] []) (mC .non))))
/-! House.__init__ -/
def n_8 : List Str := ["self", "programs", "things", "rights", "rule"]
def b_8 : MS := (mSeq (mDrop (mCall 1 (mCons (mVar 2) mNil)))
 (mSeq (mDrop (mCall 4 (mCons (mVar 1) (mCons (mVar 2) mNil))))
 (mSeq (mDrop (mCall 5 (mCons (mVar 3) (mCons (mVar 2) (mCons (mBl lenX (mCons (mVar 1) mNil)) mNil)))))
 (mSeq (mDrop (mCall 6 (mCons (mVar 4) mNil)))
 (mSeq (mSetF tFld "rows" (mVar 1) (mVar 0))
 (mSeq (mSetF tFld "kinds" (mVar 2) (mVar 0))
 (mSeq (mSetF tFld "given" (mVar 3) (mVar 0))
 (mSetF tFld "way" (mVar 4) (mVar 0)))))))))
/-! opened -/
def n_14 : List Str := ["standing"]
def b_14 : MS := (mRet (mDz (mCons (mC (.tup [(.str [112, 108, 97, 99, 101, 115]), (.str [110, 117, 109, 98, 101, 114, 115]), (.str [99, 101, 108, 108, 115]), (.str [111, 119, 110, 101, 114, 115]), (.str [112, 105, 112, 101, 115]), (.str [115, 105, 103, 110, 97, 108, 115]), (.str [98, 108, 111, 99, 107, 115]), (.str [100, 105, 115, 107]), (.str [98, 117, 102, 102, 101, 114]), (.str [108, 111, 103]), (.str [114, 105, 103, 104, 116, 115]), (.str [116, 117, 114, 110])])) (mCons (mVar 0) mNil))))
/-! shut -/
def lg_15_0 : MG := (gN 1)
def lt_15_0 : MT := mYes
def le_15_0 : ME := (mB ixD (mVar 0) (mVar 1))
def n_15 : List Str := ["now", "field"]
def b_15 : MS := (mRet (mBl toTupD (mCons (mLc (mSeqI (mC (.tup [(.str [112, 108, 97, 99, 101, 115]), (.str [110, 117, 109, 98, 101, 114, 115]), (.str [99, 101, 108, 108, 115]), (.str [111, 119, 110, 101, 114, 115]), (.str [112, 105, 112, 101, 115]), (.str [115, 105, 103, 110, 97, 108, 115]), (.str [98, 108, 111, 99, 107, 115]), (.str [100, 105, 115, 107]), (.str [98, 117, 102, 102, 101, 114]), (.str [108, 111, 103]), (.str [114, 105, 103, 104, 116, 115]), (.str [116, 117, 114, 110])]))) lg_15_0 lt_15_0 le_15_0 [1]) mNil)))
/-! begun_with -/
def n_16 : List Str := ["house", "blocks", "many", "cells", "locks", "pipes", "signals", "files"]
def b_16 : MS := (mSeq (mAsg (mFld tFld "kinds" (mVar 0)) (gTp 5 (gsCons (gN 3) (gsCons (gN 4) (gsCons (gN 5) (gsCons (gN 6) (gsCons (gN 7) gsNil)))))))
 (mSeq (mAsg (mBl lenX (mCons (mFld tFld "rows" (mVar 0)) mNil)) (gN 2))
 (mRet (mCall 15 (mCons (mDks [([112, 108, 97, 99, 101, 115], (mB mulT (mTup (mCons (mC (.int 0)) mNil)) (mVar 2))), ([110, 117, 109, 98, 101, 114, 115], (mB mulT (mTup (mCons (mC (.int 0)) mNil)) (mVar 2))), ([99, 101, 108, 108, 115], (mB mulT (mTup (mCons (mC (.int 0)) mNil)) (mVar 3))), ([111, 119, 110, 101, 114, 115], (mB mulT (mTup (mCons (mC .non) mNil)) (mVar 4))), ([112, 105, 112, 101, 115], (mB mulT (mTup (mCons (mTup mNil) mNil)) (mBl lenX (mCons (mVar 5) mNil)))), ([115, 105, 103, 110, 97, 108, 115], (mB mulT (mTup (mCons (mC (.bl false)) mNil)) (mVar 6))), ([98, 108, 111, 99, 107, 115], (mVar 1)), ([100, 105, 115, 107], (mVar 1)), ([98, 117, 102, 102, 101, 114], (mTup mNil)), ([108, 111, 103], (mTup mNil)), ([114, 105, 103, 104, 116, 115], (mFld tFld "given" (mVar 0))), ([116, 117, 114, 110], (mNeg (mC (.int 1))))]) mNil)))))
/-! begin -/
def n_17 : List Str := ["house"]
def b_17 : MS := (mRet (mCall 16 (mCons (mVar 0) (mCons (mB mulT (mTup (mCons (mC (.int 0)) mNil)) (mB ixD (mFld tFld "kinds" (mVar 0)) (mC (.int 4)))) mNil))))
/-! changed -/
def n_18 : List Str := ["things", "at", "thing"]
def b_18 : MS := (mRet (mTup (mStar (mSl (mVar 0) mNoPart (mPart (mVar 1))) (mCons (mVar 2) (mStar (mSl (mVar 0) (mPart (mB addD (mVar 1) (mC (.int 1)))) mNoPart) mNil)))))
/-! line_of -/
def n_19 : List Str := ["house", "standing", "program", "rows", "place"]
def b_19 : MS := (mSeq (mPar 3 4 (mCons (mB ixD (mFld tFld "rows" (mVar 0)) (mVar 2)) (mCons (mB ixD (mB ixD (mVar 1) (mC (.int 0))) (mVar 2)) mNil)))
 (mRet (mIf (mTB (mB ltD (mVar 4) (mBl lenX (mCons (mVar 3) mNil)))) (mB ixD (mVar 3) (mVar 4)) (mC .non))))
/-! can_step -/
def n_20 : List Str := ["house", "standing", "program", "line", "name", "word"]
def b_20 : MS := (mSeq (mAsg (mCall 19 (mCons (mVar 0) (mCons (mVar 1) (mCons (mVar 2) mNil)))) (gN 3))
 (mSeq (mIfS (mTB (mB (isD false) (mVar 3) (mC .non)))
 (mRet (mC (.bl false)))
 mSkip)
 (mSeq (mAsg (mCall 7 (mCons (mVar 3) mNil)) (gN 4))
 (mSeq (mIfS (mAnd (mTB (mB (isD true) (mVar 4) (mC .non))) (mTB (mB (inD true) (mVar 4) (mB ixD (mB ixD (mVar 1) (mC (.int 10))) (mVar 2)))))
 (mRet (mC (.bl false)))
 mSkip)
 (mSeq (mAsg (mB ixD (mVar 3) (mC (.int 0))) (gN 5))
 (mSeq (mIfS (mTB (mB (eqD false) (mVar 5) (mC (.str [116, 97, 107, 101]))))
 (mRet (mB (isD false) (mB ixD (mB ixD (mVar 1) (mC (.int 3))) (mB ixD (mVar 3) (mC (.int 1)))) (mC .non)))
 mSkip)
 (mSeq (mIfS (mTB (mB (eqD false) (mVar 5) (mC (.str [102, 114, 101, 101]))))
 (mRet (mB (eqD false) (mB ixD (mB ixD (mVar 1) (mC (.int 3))) (mB ixD (mVar 3) (mC (.int 1)))) (mVar 2)))
 mSkip)
 (mSeq (mIfS (mTB (mB (eqD false) (mVar 5) (mC (.str [115, 101, 110, 100]))))
 (mRet (mB ltD (mBl lenX (mCons (mB ixD (mB ixD (mVar 1) (mC (.int 4))) (mB ixD (mVar 3) (mC (.int 1)))) mNil)) (mB ixD (mB ixD (mFld tFld "kinds" (mVar 0)) (mC (.int 2))) (mB ixD (mVar 3) (mC (.int 1))))))
 mSkip)
 (mSeq (mIfS (mTB (mB (eqD false) (mVar 5) (mC (.str [104, 101, 97, 114]))))
 (mRet (mB (eqD true) (mB ixD (mB ixD (mVar 1) (mC (.int 4))) (mB ixD (mVar 3) (mC (.int 1)))) (mTup mNil)))
 mSkip)
 (mRet (mIf (mTB (mB (eqD false) (mVar 5) (mC (.str [119, 97, 105, 116])))) (mB ixD (mB ixD (mVar 1) (mC (.int 5))) (mB ixD (mVar 3) (mC (.int 1)))) (mC (.bl true)))))))))))))
/-! wants -/
def n_21 : List Str := ["house", "standing", "program", "line"]
def b_21 : MS := (mSeq (mAsg (mCall 19 (mCons (mVar 0) (mCons (mVar 1) (mCons (mVar 2) mNil)))) (gN 3))
 (mSeq (mIfS (mOr (mTB (mB (isD false) (mVar 3) (mC .non))) (mOr (mTB (mB (eqD true) (mB ixD (mVar 3) (mC (.int 0))) (mC (.str [116, 97, 107, 101])))) (mTB (mB (inD true) (mCall 7 (mCons (mVar 3) mNil)) (mB ixD (mB ixD (mVar 1) (mC (.int 10))) (mVar 2))))))
 (mRet (mC .non))
 mSkip)
 (mRet (mB ixD (mB ixD (mVar 1) (mC (.int 3))) (mB ixD (mVar 3) (mC (.int 1)))))))
/-! lent_ranks -/
def lg_22_0 : MG := (gTp 2 (gsCons (gN 6) (gsCons (gN 7) gsNil)))
def lt_22_0 : MT := mYes
def le_22_0 : ME := (mIf (mTB (mB (eqD false) (mVar 6) (mVar 5))) (mBl minLD (mCons (mVar 7) (mCons (mB ixD (mVar 2) (mVar 4)) mNil))) (mVar 7))
def fg_22_1 : MG := (gN 4)
def fb_22_1 : MS := (mSeq (mAsg (mCall 21 (mCons (mVar 0) (mCons (mVar 1) (mCons (mVar 4) mNil)))) (gN 5))
 (mIfS (mTB (mB (isD true) (mVar 5) (mC .non)))
 (mAsg (mLc (mEnum (mCons (mVar 2) mNil)) lg_22_0 lt_22_0 le_22_0 [6, 7]) (gN 2))
 mSkip))
def fg_22_2 : MG := (gN 3)
def fb_22_2 : MS := (mFor (mRng1 (mCons (mBl lenX (mCons (mFld tFld "rows" (mVar 0)) mNil)) mNil)) fg_22_1 fb_22_1)
def n_22 : List Str := ["house", "standing", "ranks", "turn", "program", "owner", "own", "rank"]
def b_22 : MS := (mSeq (mAsg (mLRg false (mBl lenX (mCons (mFld tFld "rows" (mVar 0)) mNil))) (gN 2))
 (mSeq (mFor (mSeqI (mVar 2)) fg_22_2 fb_22_2)
 (mRet (mVar 2))))
/-! programs_let -/
def lg_23_0 : MG := (gN 6)
def lt_23_0 : MT := (mTru (mCall 20 (mCons (mVar 0) (mCons (mVar 1) (mCons (mVar 6) mNil)))))
def le_23_0 : ME := (mVar 6)
def lg_23_1 : MG := (gN 6)
def lt_23_1 : MT := mYes
def le_23_1 : ME := (mTup (mCons (mB modD (mB subD (mB subD (mVar 6) (mB ixD (mVar 1) (mC (.int 11)))) (mC (.int 1))) (mVar 2)) (mCons (mVar 6) mNil)))
def lg_23_2 : MG := (gN 6)
def lt_23_2 : MT := mYes
def le_23_2 : ME := (mTup (mCons (mB ixD (mVar 5) (mVar 6)) (mCons (mVar 6) mNil)))
def n_23 : List Str := ["house", "standing", "many", "able", "order", "ranks", "program"]
def b_23 : MS := (mSeq (mAsg (mBl lenX (mCons (mFld tFld "rows" (mVar 0)) mNil)) (gN 2))
 (mSeq (mAsg (mLc (mRng1 (mCons (mVar 2) mNil)) lg_23_0 lt_23_0 le_23_0 [6]) (gN 3))
 (mSeq (mAsg (mB ixD (mFld tFld "way" (mVar 0)) (mC (.int 0))) (gN 4))
 (mSeq (mIfS (mOr (mTB (mB (eqD false) (mVar 3) (mLst mNil))) (mTB (mB (eqD false) (mVar 4) (mC (.str [97, 110, 121])))))
 (mRet (mVar 3))
 mSkip)
 (mSeq (mIfS (mTB (mB (eqD false) (mVar 4) (mC (.str [114, 105, 110, 103]))))
 (mRet (mLst (mCons (mB ixD (mBl minLD (mCons (mLc (mSeqI (mVar 3)) lg_23_1 lt_23_1 le_23_1 [6]) mNil)) (mC (.int 1))) mNil)))
 mSkip)
 (mSeq (mAsg (mIf (mTB (mB (eqD false) (mVar 4) (mC (.str [108, 101, 110, 116])))) (mCall 22 (mCons (mVar 0) (mCons (mVar 1) mNil))) (mLRg false (mVar 2))) (gN 5))
 (mRet (mLst (mCons (mB ixD (mBl minLD (mCons (mLc (mSeqI (mVar 3)) lg_23_2 lt_23_2 le_23_2 [6]) mNil)) (mC (.int 1))) mNil)))))))))
/-! steps_of -/
def lg_24_0 : MG := (gN 2)
def lt_24_0 : MT := mYes
def le_24_0 : ME := (mTup (mCons (mC (.str [99, 117, 116])) (mCons (mVar 2) mNil)))
def n_24 : List Str := ["house", "standing", "many"]
def b_24 : MS := (mRet (mLst (mStar (mCall 23 (mCons (mVar 0) (mCons (mVar 1) mNil))) (mStar (mLc (mRng1 (mCons (mB addD (mBl lenX (mCons (mB ixD (mVar 1) (mC (.int 8))) mNil)) (mC (.int 1))) mNil)) lg_24_0 lt_24_0 le_24_0 [2]) mNil))))
/-! after_line -/
def n_25 : List Str := ["now", "program", "line", "own", "word", "number"]
def b_25 : MS := (mSeq (mPar 4 5 (mCons (mB ixD (mVar 2) (mC (.int 0))) (mCons (mB ixD (mB ixD (mVar 0) (mC (.str [110, 117, 109, 98, 101, 114, 115]))) (mVar 1)) mNil)))
 (mSeq (mAsg (mVar 5) (gN 3))
 (mSeq (mIfS (mTB (mB (eqD false) (mVar 4) (mC (.str [115, 101, 116]))))
 (mAsg (mB ixD (mVar 2) (mC (.int 1))) (gN 3))
 (mIfS (mTB (mB (eqD false) (mVar 4) (mC (.str [97, 100, 100]))))
 (mAsg (mB modD (mB addD (mVar 5) (mB ixD (mVar 2) (mC (.int 1)))) (mC (.int 4))) (gN 3))
 (mIfS (mTB (mB (eqD false) (mVar 4) (mC (.str [103, 101, 116]))))
 (mAsg (mB ixD (mB ixD (mVar 0) (mC (.str [99, 101, 108, 108, 115]))) (mB ixD (mVar 2) (mC (.int 1)))) (gN 3))
 (mIfS (mTB (mB (eqD false) (mVar 4) (mC (.str [114, 101, 97, 100]))))
 (mAsg (mB ixD (mB ixD (mVar 0) (mC (.str [98, 108, 111, 99, 107, 115]))) (mB ixD (mVar 2) (mC (.int 1)))) (gN 3))
 (mIfS (mTB (mB (eqD false) (mVar 4) (mC (.str [104, 101, 97, 114]))))
 (mSeq (mAsg (mB ixD (mB ixD (mB ixD (mVar 0) (mC (.str [112, 105, 112, 101, 115]))) (mB ixD (mVar 2) (mC (.int 1)))) (mC (.int 0))) (gN 3))
 (mAsg (mCall 18 (mCons (mB ixD (mVar 0) (mC (.str [112, 105, 112, 101, 115]))) (mCons (mB ixD (mVar 2) (mC (.int 1))) (mCons (mSl (mB ixD (mB ixD (mVar 0) (mC (.str [112, 105, 112, 101, 115]))) (mB ixD (mVar 2) (mC (.int 1)))) (mPart (mC (.int 1))) mNoPart) mNil)))) (gSb (mVar 0) (mC (.str [112, 105, 112, 101, 115])))))
 (mIfS (mTB (mB (eqD false) (mVar 4) (mC (.str [112, 117, 116]))))
 (mAsg (mCall 18 (mCons (mB ixD (mVar 0) (mC (.str [99, 101, 108, 108, 115]))) (mCons (mB ixD (mVar 2) (mC (.int 1))) (mCons (mVar 5) mNil)))) (gSb (mVar 0) (mC (.str [99, 101, 108, 108, 115]))))
 (mIfS (mTB (mB (eqD false) (mVar 4) (mC (.str [116, 97, 107, 101]))))
 (mAsg (mCall 18 (mCons (mB ixD (mVar 0) (mC (.str [111, 119, 110, 101, 114, 115]))) (mCons (mB ixD (mVar 2) (mC (.int 1))) (mCons (mVar 1) mNil)))) (gSb (mVar 0) (mC (.str [111, 119, 110, 101, 114, 115]))))
 (mIfS (mTB (mB (eqD false) (mVar 4) (mC (.str [102, 114, 101, 101]))))
 (mAsg (mCall 18 (mCons (mB ixD (mVar 0) (mC (.str [111, 119, 110, 101, 114, 115]))) (mCons (mB ixD (mVar 2) (mC (.int 1))) (mCons (mC .non) mNil)))) (gSb (mVar 0) (mC (.str [111, 119, 110, 101, 114, 115]))))
 (mIfS (mTB (mB (eqD false) (mVar 4) (mC (.str [115, 101, 110, 100]))))
 (mAsg (mCall 18 (mCons (mB ixD (mVar 0) (mC (.str [112, 105, 112, 101, 115]))) (mCons (mB ixD (mVar 2) (mC (.int 1))) (mCons (mTup (mStar (mB ixD (mB ixD (mVar 0) (mC (.str [112, 105, 112, 101, 115]))) (mB ixD (mVar 2) (mC (.int 1)))) (mCons (mVar 5) mNil))) mNil)))) (gSb (mVar 0) (mC (.str [112, 105, 112, 101, 115]))))
 (mIfS (mTB (mB (inD false) (mVar 4) (mTup (mCons (mC (.str [119, 97, 107, 101])) (mCons (mC (.str [119, 97, 105, 116])) mNil)))))
 (mAsg (mCall 18 (mCons (mB ixD (mVar 0) (mC (.str [115, 105, 103, 110, 97, 108, 115]))) (mCons (mB ixD (mVar 2) (mC (.int 1))) (mCons (mB (eqD false) (mVar 4) (mC (.str [119, 97, 107, 101]))) mNil)))) (gSb (mVar 0) (mC (.str [115, 105, 103, 110, 97, 108, 115]))))
 (mDrop (mCall 26 (mCons (mVar 0) (mCons (mVar 1) (mCons (mVar 2) mNil)))))))))))))))
 (mAsg (mCall 18 (mCons (mB ixD (mVar 0) (mC (.str [110, 117, 109, 98, 101, 114, 115]))) (mCons (mVar 1) (mCons (mVar 3) mNil)))) (gSb (mVar 0) (mC (.str [110, 117, 109, 98, 101, 114, 115])))))))
/-! after_more -/
def dg_26_0 : MG := (gN 5)
def dt_26_0 : MT := mYes
def dk_26_0 : ME := (mVar 5)
def dv_26_0 : ME := (mC (.bl true))
def n_26 : List Str := ["now", "program", "line", "word", "own", "name"]
def b_26 : MS := (mSeq (mAsg (mB ixD (mVar 2) (mC (.int 0))) (gN 3))
 (mIfS (mTB (mB (eqD false) (mVar 3) (mC (.str [110, 111, 116, 101]))))
 (mSeq (mAsg (mCall 18 (mCons (mB ixD (mVar 0) (mC (.str [98, 108, 111, 99, 107, 115]))) (mCons (mB ixD (mVar 2) (mC (.int 1))) (mCons (mB ixD (mB ixD (mVar 0) (mC (.str [110, 117, 109, 98, 101, 114, 115]))) (mVar 1)) mNil)))) (gSb (mVar 0) (mC (.str [98, 108, 111, 99, 107, 115]))))
 (mAsg (mTup (mStar (mB ixD (mVar 0) (mC (.str [98, 117, 102, 102, 101, 114]))) (mCons (mTup (mCons (mC (.str [110, 111, 116, 101])) (mCons (mVar 1) (mCons (mB ixD (mVar 2) (mC (.int 1))) (mCons (mB ixD (mB ixD (mVar 0) (mC (.str [110, 117, 109, 98, 101, 114, 115]))) (mVar 1)) mNil))))) mNil))) (gSb (mVar 0) (mC (.str [98, 117, 102, 102, 101, 114])))))
 (mIfS (mTB (mB (eqD false) (mVar 3) (mC (.str [109, 97, 114, 107]))))
 (mAsg (mTup (mStar (mB ixD (mVar 0) (mC (.str [98, 117, 102, 102, 101, 114]))) (mCons (mTup (mCons (mC (.str [109, 97, 114, 107])) (mCons (mVar 1) mNil))) mNil))) (gSb (mVar 0) (mC (.str [98, 117, 102, 102, 101, 114]))))
 (mIfS (mTB (mB (eqD false) (mVar 3) (mC (.str [107, 101, 101, 112]))))
 (mAsg (mTup (mCons (mTup (mStar (mB ixD (mVar 0) (mC (.str [108, 111, 103]))) (mStar (mB ixD (mVar 0) (mC (.str [98, 117, 102, 102, 101, 114]))) mNil))) (mCons (mTup mNil) mNil))) (gTp 2 (gsCons (gSb (mVar 0) (mC (.str [108, 111, 103]))) (gsCons (gSb (mVar 0) (mC (.str [98, 117, 102, 102, 101, 114]))) gsNil))))
 (mIfS (mTB (mB (eqD false) (mVar 3) (mC (.str [104, 97, 110, 100]))))
 (mSeq (mAsg (mB ixD (mB ixD (mVar 0) (mC (.str [114, 105, 103, 104, 116, 115]))) (mB ixD (mVar 2) (mC (.int 1)))) (gN 4))
 (mAsg (mCall 18 (mCons (mB ixD (mVar 0) (mC (.str [114, 105, 103, 104, 116, 115]))) (mCons (mB ixD (mVar 2) (mC (.int 1))) (mCons (mBl toTupD (mCons (mBl srtX (mCons (mDc (mSeqI (mTup (mStar (mVar 4) (mCons (mB ixD (mVar 2) (mC (.int 2))) mNil)))) dg_26_0 dt_26_0 dk_26_0 dv_26_0 [5]) mNil)) mNil)) mNil)))) (gSb (mVar 0) (mC (.str [114, 105, 103, 104, 116, 115])))))
 mSkip)))))
/-! next_place -/
def n_27 : List Str := ["house", "standing", "program", "line", "place"]
def b_27 : MS := (mSeq (mAsg (mB ixD (mB ixD (mVar 1) (mC (.int 0))) (mVar 2)) (gN 4))
 (mSeq (mIfS (mOr (mTB (mB (eqD false) (mB ixD (mVar 3) (mC (.int 0))) (mC (.str [103, 111])))) (mAnd (mTB (mB (eqD false) (mB ixD (mVar 3) (mC (.int 0))) (mC (.str [122, 101, 114, 111])))) (mTB (mB (eqD false) (mB ixD (mB ixD (mVar 1) (mC (.int 1))) (mVar 2)) (mC (.int 0))))))
 (mRet (mB ixD (mVar 3) (mC (.int 1))))
 mSkip)
 (mRet (mIf (mTB (mB (eqD false) (mB ixD (mVar 3) (mC (.int 0))) (mC (.str [115, 116, 111, 112])))) (mBl lenX (mCons (mB ixD (mFld tFld "rows" (mVar 0)) (mVar 2)) mNil)) (mB addD (mVar 4) (mC (.int 1)))))))
/-! mended -/
def lg_28_0 : MG := (gN 7)
def lt_28_0 : MT := (mTB (mB (eqD false) (mB ixD (mVar 7) (mC (.int 0))) (mC (.str [109, 97, 114, 107]))))
def le_28_0 : ME := (mVar 7)
def lg_28_1 : MG := (gN 7)
def lt_28_1 : MT := (mOr (mTB (mB (eqD false) (mB ixD (mFld tFld "way" (mVar 0)) (mC (.int 1))) (mC (.str [97, 108, 108])))) (mTB (mB (eqD false) (mB ixD (mVar 7) (mC (.int 1))) (mB ixD (mVar 4) (mC (.int 1))))))
def le_28_1 : ME := (mVar 7)
def fg_28_2 : MG := (gTp 2 (gsCons (gN 5) (gsCons (gN 4) gsNil)))
def fb_28_2 : MS := (mIfS (mTB (mB (eqD false) (mB ixD (mVar 4) (mC (.int 0))) (mC (.str [110, 111, 116, 101]))))
 (mSeq (mAsg (mLc (mSeqI (mSl (mVar 2) (mPart (mB addD (mVar 5) (mC (.int 1)))) mNoPart)) lg_28_0 lt_28_0 le_28_0 [7]) (gN 6))
 (mIfS (mTB (mB (eqD true) (mLc (mSeqI (mVar 6)) lg_28_1 lt_28_1 le_28_1 [7]) (mLst mNil)))
 (mDrop (mApp (mVar 3) (mVar 4)))
 mSkip))
 mSkip)
def fg_28_3 : MG := (gN 4)
def fb_28_3 : MS := (mAsg (mCall 18 (mCons (mVar 1) (mCons (mB ixD (mVar 4) (mC (.int 2))) (mCons (mB ixD (mVar 4) (mC (.int 3))) mNil)))) (gN 1))
def n_28 : List Str := ["house", "blocks", "log", "settled", "thing", "at", "later", "other"]
def b_28 : MS := (mSeq (mAsg (mLstM mNil) (gN 3))
 (mSeq (mFor (mEnum (mCons (mVar 2) mNil)) fg_28_2 fb_28_2)
 (mSeq (mFor (mSeqI (mVar 3)) fg_28_3 fb_28_3)
 (mRet (mVar 1)))))
/-! behind -/
def n_29 : List Str := ["house", "standing", "step", "now", "line"]
def b_29 : MS := (mSeq (mIfS (mTru (mIsi .tuple (mVar 2)))
 (mRet (mCall 16 (mCons (mVar 0) (mCons (mCall 28 (mCons (mVar 0) (mCons (mB ixD (mVar 1) (mC (.int 7))) (mCons (mTup (mStar (mB ixD (mVar 1) (mC (.int 9))) (mStar (mSl (mB ixD (mVar 1) (mC (.int 8))) mNoPart (mPart (mB ixD (mVar 2) (mC (.int 1))))) mNil))) mNil)))) mNil))))
 mSkip)
 (mSeq (mPar 3 4 (mCons (mCall 14 (mCons (mVar 1) mNil)) (mCons (mCall 19 (mCons (mVar 0) (mCons (mVar 1) (mCons (mVar 2) mNil)))) mNil)))
 (mSeq (mDrop (mCall 25 (mCons (mVar 3) (mCons (mVar 2) (mCons (mVar 4) mNil)))))
 (mSeq (mAsg (mCall 18 (mCons (mB ixD (mVar 3) (mC (.str [112, 108, 97, 99, 101, 115]))) (mCons (mVar 2) (mCons (mCall 27 (mCons (mVar 0) (mCons (mVar 1) (mCons (mVar 2) (mCons (mVar 4) mNil))))) mNil)))) (gSb (mVar 3) (mC (.str [112, 108, 97, 99, 101, 115]))))
 (mSeq (mAsg (mVar 2) (gSb (mVar 3) (mC (.str [116, 117, 114, 110]))))
 (mRet (mCall 15 (mCons (mVar 3) mNil))))))))
/-! is_step -/
def n_30 : List Str := ["house", "standing", "value"]
def b_30 : MS := (mSeq (mIfS (mTru (mIsi .tuple (mVar 2)))
 (mSeq (mIfS (mOr (mTB (mB (eqD true) (mBl lenX (mCons (mVar 2) mNil)) (mC (.int 2)))) (mOr (mNot (mTru (mIsi .str (mB ixD (mVar 2) (mC (.int 0)))))) (mTB (mB (eqD true) (mB ixD (mVar 2) (mC (.int 0))) (mC (.str [99, 117, 116]))))))
 (mRet (mC (.bl false)))
 mSkip)
 (mRet (mCall 0 (mCons (mB ixD (mVar 2) (mC (.int 1))) (mCons (mC (.int 0)) (mCons (mBl lenX (mCons (mB ixD (mVar 1) (mC (.int 8))) mNil)) mNil))))))
 mSkip)
 (mRet (mAndV (mCall 0 (mCons (mVar 2) (mCons (mC (.int 0)) (mCons (mB subD (mBl lenX (mCons (mFld tFld "rows" (mVar 0)) mNil)) (mC (.int 1))) mNil)))) (mB (inD false) (mVar 2) (mCall 23 (mCons (mVar 0) (mCons (mVar 1) mNil)))))))
/-! stepped -/
def n_31 : List Str := ["house", "standing", "step"]
def b_31 : MS := (mSeq (mIfS (mNot (mTru (mCall 30 (mCons (mVar 0) (mCons (mVar 1) (mCons (mVar 2) mNil))))))
 (mRse "BadStep")
 mSkip)
 (mRet (mCall 29 (mCons (mVar 0) (mCons (mVar 1) (mCons (mVar 2) mNil))))))
/-! why -/
def n_32 : List Str := ["house", "standing", "program", "line", "name"]
def b_32 : MS := (mSeq (mAsg (mCall 19 (mCons (mVar 0) (mCons (mVar 1) (mCons (mVar 2) mNil)))) (gN 3))
 (mSeq (mIfS (mOr (mTB (mB (isD false) (mVar 3) (mC .non))) (mTru (mCall 20 (mCons (mVar 0) (mCons (mVar 1) (mCons (mVar 2) mNil))))))
 (mRet (mC .non))
 mSkip)
 (mSeq (mAsg (mCall 7 (mCons (mVar 3) mNil)) (gN 4))
 (mSeq (mIfS (mTB (mB (inD true) (mVar 4) (mB ixD (mB ixD (mVar 1) (mC (.int 10))) (mVar 2))))
 (mRet (mTup (mCons (mC (.str [114, 105, 103, 104, 116])) (mCons (mVar 4) mNil))))
 mSkip)
 (mSeq (mIfS (mTB (mB (eqD false) (mB ixD (mVar 3) (mC (.int 0))) (mC (.str [116, 97, 107, 101]))))
 (mRet (mTup (mCons (mC (.str [108, 111, 99, 107])) (mCons (mVar 4) (mCons (mB ixD (mB ixD (mVar 1) (mC (.int 3))) (mB ixD (mVar 3) (mC (.int 1)))) mNil)))))
 mSkip)
 (mRet (mTup (mCons (mB ixD (mDks [([102, 114, 101, 101], (mC (.str [102, 114, 101, 101]))), ([115, 101, 110, 100], (mC (.str [102, 117, 108, 108]))), ([104, 101, 97, 114], (mC (.str [101, 109, 112, 116, 121]))), ([119, 97, 105, 116], (mC (.str [115, 105, 103, 110, 97, 108])))]) (mB ixD (mVar 3) (mC (.int 0)))) (mCons (mVar 4) mNil)))))))))
/-! waiting -/
def lg_33_0 : MG := (gN 2)
def lt_33_0 : MT := mYes
def le_33_0 : ME := (mCall 32 (mCons (mVar 0) (mCons (mVar 1) (mCons (mVar 2) mNil))))
def n_33 : List Str := ["house", "standing", "program"]
def b_33 : MS := (mRet (mLc (mRng1 (mCons (mBl lenX (mCons (mFld tFld "rows" (mVar 0)) mNil)) mNil)) lg_33_0 lt_33_0 le_33_0 [2]))
/-! _law_draws -/
def n_34 : List Str := ["_law_script"]
def b_34 : MS := (mRet (mLstM (mCons (mBl (toLstX false) (mCons (mVar 0) mNil)) (mCons (mC (.int 0)) (mCons (mC (.int 0)) (mCons (mC (.int 7)) mNil))))))
/-! _law_pick -/
def n_35 : List Str := ["_law_row", "_law_many", "_law_found", "_law_cell"]
def b_35 : MS := (mSeq (mIfS (mTB (mB (eqD false) (mB ixD (mVar 0) (mC (.int 2))) (mC (.int 0))))
 (mIfS (mTB (mB ltD (mB ixD (mVar 0) (mC (.int 1))) (mBl lenX (mCons (mB ixD (mVar 0) (mC (.int 0))) mNil))))
 (mSeq (mAsg (mB ixD (mB ixD (mVar 0) (mC (.int 0))) (mB ixD (mVar 0) (mC (.int 1)))) (gN 3))
 (mSeq (mAsg (mB addD (mB ixD (mVar 0) (mC (.int 1))) (mC (.int 1))) (gSb (mVar 0) (mC (.int 1))))
 (mIfS (mTB (mB geD (mVar 3) (mB powD (mC (.int 10)) (mC (.int 18)))))
 (mAsg (mVar 3) (gSb (mVar 0) (mC (.int 2))))
 (mAsg (mB modD (mBl toIntD (mCons (mB addD (mB addD (mB mulT (mB ixD (mVar 0) (mC (.int 3))) (mC (.int 48271))) (mB mulT (mVar 3) (mC (.int 69621)))) (mC (.int 11))) mNil)) (mC (.int 2147483647))) (gSb (mVar 0) (mC (.int 3)))))))
 (mAsg (mB modD (mBl toIntD (mCons (mB addD (mB mulT (mB ixD (mVar 0) (mC (.int 3))) (mC (.int 48271))) (mC (.int 7))) mNil)) (mC (.int 2147483647))) (gSb (mVar 0) (mC (.int 3)))))
 mSkip)
 (mSeq (mIfS (mTB (mB gtD (mB ixD (mVar 0) (mC (.int 2))) (mC (.int 0))))
 (mSeq (mAsg (mB modD (mBl toIntD (mCons (mB ixD (mVar 0) (mC (.int 2))) mNil)) (mVar 1)) (gN 2))
 (mSeq (mAsg (mB fdivD (mB ixD (mVar 0) (mC (.int 2))) (mVar 1)) (gSb (mVar 0) (mC (.int 2))))
 (mRet (mVar 2))))
 mSkip)
 (mRet (mB modD (mB modD (mBl toIntD (mCons (mB mulT (mB ixD (mVar 0) (mC (.int 3))) (mC (.int 16807))) mNil)) (mC (.int 2147483629))) (mVar 1)))))
/-! _law_names -/
def lg_36_0 : MG := (gN 4)
def lt_36_0 : MT := mYes
def le_36_0 : ME := (mB addD (mVar 2) (mBl toStrD (mCons (mVar 4) mNil)))
def fg_36_1 : MG := (gTp 2 (gsCons (gN 2) (gsCons (gN 3) gsNil)))
def fb_36_1 : MS := (mAsg (mB addD (mVar 1) (mLc (mRng1 (mCons (mVar 3) mNil)) lg_36_0 lt_36_0 le_36_0 [4])) (gN 1))
def n_36 : List Str := ["_law_kinds", "_law_found", "_law_letter", "_law_many", "_law_k"]
def b_36 : MS := (mSeq (mAsg (mLst mNil) (gN 1))
 (mSeq (mFor (mSeqI (mLst (mCons (mTup (mCons (mC (.str [99])) (mCons (mB ixD (mVar 0) (mC (.int 0))) mNil))) (mCons (mTup (mCons (mC (.str [102])) (mCons (mB ixD (mVar 0) (mC (.int 4))) mNil))) (mCons (mTup (mCons (mC (.str [107])) (mCons (mB ixD (mVar 0) (mC (.int 1))) mNil))) (mCons (mTup (mCons (mC (.str [112])) (mCons (mBl lenX (mCons (mB ixD (mVar 0) (mC (.int 2))) mNil)) mNil))) (mCons (mTup (mCons (mC (.str [115])) (mCons (mB ixD (mVar 0) (mC (.int 3))) mNil))) mNil))))))) fg_36_1 fb_36_1)
 (mRet (mVar 1))))
/-! _law_kind -/
def n_37 : List Str := ["_law_word"]
def b_37 : MS := (mRet (mGet2 (mDks [([103, 101, 116], (mC (.str [99]))), ([112, 117, 116], (mC (.str [99]))), ([116, 97, 107, 101], (mC (.str [107]))), ([102, 114, 101, 101], (mC (.str [107]))), ([115, 101, 110, 100], (mC (.str [112]))), ([104, 101, 97, 114], (mC (.str [112]))), ([119, 97, 107, 101], (mC (.str [115]))), ([119, 97, 105, 116], (mC (.str [115]))), ([114, 101, 97, 100], (mC (.str [102]))), ([110, 111, 116, 101], (mC (.str [102])))]) (mVar 0) (mC (.str []))))
/-! _law_line -/
def fg_38_0 : MG := (gTp 3 (gsCons (gN 9) (gsCons (gN 10) (gsCons (gN 11) gsNil))))
def fb_38_0 : MS := (mIfS (mTB (mB (inD false) (mB addD (mVar 9) (mC (.str [48]))) (mCall 36 (mCons (mVar 1) mNil))))
 (mAsg (mB addD (mVar 5) (mLMul (mCons (mVar 10) (mCons (mVar 11) mNil)) (mC (.int 3)))) (gN 5))
 mSkip)
def lg_38_1 : MG := (gN 13)
def lt_38_1 : MT := (mTB (mB (eqD false) (mB ixD (mVar 13) (mC (.int 0))) (mCall 37 (mCons (mVar 7) mNil))))
def le_38_1 : ME := (mVar 13)
def n_38 : List Str := ["_law_row", "_law_kinds", "_law_many", "_law_spot", "_law_lines", "_law_words", "_law_pairs", "_law_word", "_law_some", "_law_letter", "_law_one", "_law_other", "_law_least", "_law_name"]
def b_38 : MS := (mSeq (mAsg (mB addD (mLst (mCons (mC (.str [115, 101, 116])) (mCons (mC (.str [97, 100, 100])) (mCons (mC (.str [115, 97, 121])) (mCons (mC (.str [122, 101, 114, 111])) (mCons (mC (.str [115, 116, 111, 112])) mNil)))))) (mLMul (mCons (mC (.str [103, 111])) mNil) (mBl toIntD (mCons (mB (eqD false) (mB ixD (mVar 1) (mC (.int 4))) (mC (.int 0))) mNil)))) (gN 5))
 (mSeq (mAsg (mLst (mCons (mTup (mCons (mC (.str [99])) (mCons (mC (.str [103, 101, 116])) (mCons (mC (.str [112, 117, 116])) mNil)))) (mCons (mTup (mCons (mC (.str [107])) (mCons (mC (.str [116, 97, 107, 101])) (mCons (mC (.str [102, 114, 101, 101])) mNil)))) (mCons (mTup (mCons (mC (.str [112])) (mCons (mC (.str [115, 101, 110, 100])) (mCons (mC (.str [104, 101, 97, 114])) mNil)))) (mCons (mTup (mCons (mC (.str [115])) (mCons (mC (.str [119, 97, 107, 101])) (mCons (mC (.str [119, 97, 105, 116])) mNil)))) mNil))))) (gN 6))
 (mSeq (mFor (mSeqI (mVar 6)) fg_38_0 fb_38_0)
 (mSeq (mIfS (mTB (mB gtD (mB ixD (mVar 1) (mC (.int 4))) (mC (.int 0))))
 (mAsg (mB addD (mVar 5) (mLst (mCons (mC (.str [110, 111, 116, 101])) (mCons (mC (.str [114, 101, 97, 100])) (mCons (mC (.str [110, 111, 116, 101])) (mCons (mC (.str [109, 97, 114, 107])) (mCons (mC (.str [107, 101, 101, 112])) (mCons (mC (.str [109, 97, 114, 107])) mNil)))))))) (gN 5))
 mSkip)
 (mSeq (mAsg (mB ixD (mVar 5) (mCall 35 (mCons (mVar 0) (mCons (mBl lenX (mCons (mVar 5) mNil)) mNil)))) (gN 7))
 (mSeq (mIfS (mTB (mB (inD false) (mVar 7) (mLst (mCons (mC (.str [115, 101, 116])) (mCons (mC (.str [97, 100, 100])) mNil)))))
 (mRet (mTup (mCons (mVar 7) (mCons (mCall 35 (mCons (mVar 0) (mCons (mC (.int 4)) mNil))) mNil))))
 mSkip)
 (mSeq (mIfS (mTB (mB (inD false) (mVar 7) (mLst (mCons (mC (.str [103, 111])) (mCons (mC (.str [122, 101, 114, 111])) mNil)))))
 (mSeq (mAsg (mIf (mTB (mB gtD (mB ixD (mVar 1) (mC (.int 4))) (mC (.int 0)))) (mB addD (mVar 3) (mC (.int 1))) (mC (.int 0))) (gN 12))
 (mRet (mTup (mCons (mVar 7) (mCons (mB addD (mVar 12) (mCall 35 (mCons (mVar 0) (mCons (mB subD (mB addD (mVar 4) (mC (.int 1))) (mVar 12)) mNil)))) mNil)))))
 mSkip)
 (mSeq (mIfS (mTB (mB (eqD false) (mCall 37 (mCons (mVar 7) mNil)) (mC (.str []))))
 (mRet (mTup (mCons (mVar 7) mNil)))
 mSkip)
 (mSeq (mAsg (mLc (mSeqI (mCall 36 (mCons (mVar 1) mNil))) lg_38_1 lt_38_1 le_38_1 [13]) (gN 8))
 (mRet (mTup (mCons (mVar 7) (mCons (mCall 35 (mCons (mVar 0) (mCons (mBl lenX (mCons (mVar 8) mNil)) mNil))) mNil)))))))))))))
/-! _law_house -/
def lg_39_0 : MG := (gN 12)
def lt_39_0 : MT := mYes
def le_39_0 : ME := (mCall 38 (mCons (mVar 0) (mCons (mVar 2) (mCons (mVar 5) (mCons (mVar 12) (mCons (mVar 8) mNil))))))
def lg_39_1 : MG := (gN 13)
def lt_39_1 : MT := (mTB (mB (eqD true) (mVar 13) (mVar 11)))
def le_39_1 : ME := (mVar 13)
def fg_39_2 : MG := (gN 3)
def fb_39_2 : MS := (mSeq (mAsg (mB addD (mC (.int 1)) (mCall 35 (mCons (mVar 0) (mCons (mIf (mTB (mB ltD (mVar 5) (mC (.int 3)))) (mVar 1) (mBl maxLD (mCons (mC (.int 2)) (mCons (mB subD (mVar 1) (mC (.int 2))) mNil)))) mNil)))) (gN 8))
 (mSeq (mAsg (mBl toTupD (mCons (mLc (mRng1 (mCons (mVar 8) mNil)) lg_39_0 lt_39_0 le_39_0 [12]) mNil)) (gN 9))
 (mSeq (mAsg (mCall 36 (mCons (mVar 2) mNil)) (gN 10))
 (mSeq (mIfS (mAnd (mTB (mB (eqD true) (mVar 10) (mLst mNil))) (mTB (mB (eqD false) (mCall 35 (mCons (mVar 0) (mCons (mC (.int 4)) mNil))) (mC (.int 0)))))
 (mSeq (mAsg (mB ixD (mVar 10) (mCall 35 (mCons (mVar 0) (mCons (mBl lenX (mCons (mVar 10) mNil)) mNil)))) (gN 11))
 (mSeq (mAsg (mLc (mSeqI (mVar 10)) lg_39_1 lt_39_1 le_39_1 [13]) (gN 10))
 (mIfS (mTB (mB (eqD false) (mCall 35 (mCons (mVar 0) (mCons (mC (.int 2)) mNil))) (mC (.int 0))))
 (mAsg (mB addD (mSl (mVar 9) mNoPart (mPart (mC (.int 9)))) (mTup (mCons (mTup (mCons (mC (.str [104, 97, 110, 100])) (mCons (mCall 35 (mCons (mVar 0) (mCons (mVar 5) mNil))) (mCons (mB ixD (mB addD (mVar 10) (mLst (mCons (mVar 11) mNil))) (mC (.int 0))) mNil)))) mNil))) (gN 9))
 mSkip)))
 mSkip)
 (mPar 6 7 (mCons (mB addD (mVar 6) (mTup (mCons (mVar 9) mNil))) (mCons (mB addD (mVar 7) (mTup (mCons (mBl toTupD (mCons (mVar 10) mNil)) mNil))) mNil)))))))
def n_39 : List Str := ["_law_row", "_law_most", "_law_kinds", "_law_k", "_law_way", "_law_many", "_law_rows", "_law_given", "_law_lines", "_law_program", "_law_names_here", "_law_gone", "_law_spot", "_law_name"]
def b_39 : MS := (mSeq (mAsg (mB ixD (mLst (mCons (mTup (mCons (mC (.int 1)) (mCons (mC (.int 0)) (mCons (mTup mNil) (mCons (mC (.int 0)) (mCons (mC (.int 0)) mNil)))))) (mCons (mTup (mCons (mC (.int 0)) (mCons (mC (.int 2)) (mCons (mTup mNil) (mCons (mC (.int 0)) (mCons (mC (.int 0)) mNil)))))) (mCons (mTup (mCons (mC (.int 1)) (mCons (mC (.int 1)) (mCons (mTup mNil) (mCons (mC (.int 1)) (mCons (mC (.int 0)) mNil)))))) (mCons (mTup (mCons (mC (.int 0)) (mCons (mC (.int 0)) (mCons (mTup (mCons (mB addD (mC (.int 1)) (mCall 35 (mCons (mVar 0) (mCons (mC (.int 2)) mNil)))) mNil)) (mCons (mC (.int 0)) (mCons (mC (.int 0)) mNil)))))) (mCons (mTup (mCons (mC (.int 0)) (mCons (mC (.int 1)) (mCons (mTup mNil) (mCons (mC (.int 0)) (mCons (mC (.int 2)) mNil)))))) (mCons (mTup (mCons (mC (.int 1)) (mCons (mC (.int 1)) (mCons (mTup (mCons (mC (.int 1)) mNil)) (mCons (mC (.int 1)) (mCons (mC (.int 0)) mNil)))))) (mCons (mTup (mCons (mC (.int 0)) (mCons (mC (.int 0)) (mCons (mTup mNil) (mCons (mC (.int 0)) (mCons (mC (.int 1)) mNil)))))) (mCons (mTup (mCons (mC (.int 2)) (mCons (mC (.int 0)) (mCons (mTup mNil) (mCons (mC (.int 0)) (mCons (mC (.int 0)) mNil)))))) (mCons (mTup (mCons (mC (.int 0)) (mCons (mC (.int 0)) (mCons (mTup (mCons (mC (.int 1)) (mCons (mC (.int 2)) mNil))) (mCons (mC (.int 0)) (mCons (mC (.int 0)) mNil)))))) (mCons (mTup (mCons (mC (.int 0)) (mCons (mC (.int 0)) (mCons (mTup mNil) (mCons (mC (.int 2)) (mCons (mC (.int 0)) mNil)))))) (mCons (mTup (mCons (mC (.int 1)) (mCons (mC (.int 0)) (mCons (mTup (mCons (mC (.int 1)) (mCons (mC (.int 1)) mNil))) (mCons (mC (.int 0)) (mCons (mC (.int 0)) mNil)))))) (mCons (mTup (mCons (mC (.int 0)) (mCons (mC (.int 0)) (mCons (mTup mNil) (mCons (mC (.int 0)) (mCons (mC (.int 0)) mNil)))))) (mCons (mTup (mCons (mC (.int 2)) (mCons (mC (.int 1)) (mCons (mTup (mCons (mC (.int 1)) mNil)) (mCons (mC (.int 1)) (mCons (mC (.int 1)) mNil)))))) mNil)))))))))))))) (mCall 35 (mCons (mVar 0) (mCons (mC (.int 13)) mNil)))) (gN 2))
 (mSeq (mAsg (mTup (mCons (mB addD (mC (.int 1)) (mCall 35 (mCons (mVar 0) (mCons (mC (.int 3)) mNil)))) (mCons (mTup mNil) (mCons (mTup mNil) mNil)))) (gTp 3 (gsCons (gN 5) (gsCons (gN 6) (gsCons (gN 7) gsNil)))))
 (mSeq (mFor (mRng1 (mCons (mVar 5) mNil)) fg_39_2 fb_39_2)
 (mSeq (mAsg (mTup (mCons (mB ixD (mLst (mCons (mC (.str [97, 110, 121])) (mCons (mC (.str [97, 110, 121])) (mCons (mC (.str [114, 105, 110, 103])) (mCons (mC (.str [114, 97, 110, 107])) (mCons (mC (.str [108, 101, 110, 116])) mNil)))))) (mCall 35 (mCons (mVar 0) (mCons (mC (.int 5)) mNil)))) (mCons (mB ixD (mLst (mCons (mC (.str [111, 119, 110])) (mCons (mC (.str [97, 108, 108])) mNil))) (mCall 35 (mCons (mVar 0) (mCons (mC (.int 2)) mNil)))) mNil))) (gN 4))
 (mRet (mDks [([114, 111, 119, 115], (mVar 6)), ([107, 105, 110, 100, 115], (mVar 2)), ([103, 105, 118, 101, 110], (mVar 7)), ([119, 97, 121], (mVar 4))]))))))
/-! _law_made -/
def n_40 : List Str := ["_law_h"]
def b_40 : MS := (mRet (mMake "House" 8 (mCons (mB ixD (mVar 0) (mC (.str [114, 111, 119, 115]))) (mCons (mB ixD (mVar 0) (mC (.str [107, 105, 110, 100, 115]))) (mCons (mB ixD (mVar 0) (mC (.str [103, 105, 118, 101, 110]))) (mCons (mB ixD (mVar 0) (mC (.str [119, 97, 121]))) mNil))))))
/-! law -/
def lg_41_0 : MG := (gN 19)
def lt_41_0 : MT := mYes
def le_41_0 : ME := (mB ixD (mVar 5) (mCall 35 (mCons (mVar 1) (mCons (mC (.int 7)) mNil))))
def fg_41_1 : MG := (gN 6)
def fb_41_1 : MS := (mAsg (mB addD (mVar 15) (mTup (mCons (mBl toTupD (mCons (mLc (mRng1 (mCons (mB addD (mC (.int 1)) (mCall 35 (mCons (mVar 1) (mCons (mC (.int 6)) mNil)))) mNil)) lg_41_0 lt_41_0 le_41_0 [19]) mNil)) mNil))) (gN 15))
def lg_41_2 : MG := (gN 11)
def lt_41_2 : MT := (mNot (mTru (mIsi .tuple (mVar 11))))
def le_41_2 : ME := (mVar 11)
def fg_41_3 : MG := (gN 13)
def fb_41_3 : MS := (mIfS (mAnd (mTB (mB (eqD false) (mB ixD (mVar 13) (mC (.int 0))) (mC (.str [110, 111, 116, 101])))) (mTB (mB (inD true) (mB addD (mC (.str [102])) (mBl toStrD (mCons (mB ixD (mVar 13) (mC (.int 2))) mNil))) (mB ixD (mB ixD (mVar 12) (mC (.int 10))) (mB ixD (mVar 13) (mC (.int 1)))))))
 (mRet (mC (.bl false)))
 mSkip)
def lg_41_4 : MG := (gN 18)
def lt_41_4 : MT := (mTB (mB (inD true) (mVar 18) (mB ixD (mB ixD (mVar 12) (mC (.int 10))) (mVar 6))))
def le_41_4 : ME := (mVar 18)
def fg_41_5 : MG := (gN 6)
def fb_41_5 : MS := (mSeq (mIfS (mAnd (mTru (mIsi .tuple (mVar 11))) (mTB (mB (eqD true) (mB ixD (mB ixD (mVar 12) (mC (.int 10))) (mVar 6)) (mB ixD (mB ixD (mVar 2) (mC (.str [103, 105, 118, 101, 110]))) (mVar 6)))))
 (mRet (mC (.bl false)))
 mSkip)
 (mSeq (mAsg (mLc (mSeqI (mB ixD (mB ixD (mVar 9) (mC (.int 10))) (mVar 6))) lg_41_4 lt_41_4 le_41_4 [18]) (gN 16))
 (mIfS (mAnd (mNot (mTru (mIsi .tuple (mVar 11)))) (mTB (mB (eqD true) (mVar 16) (mLst mNil))))
 (mRet (mC (.bl false)))
 mSkip)))
def lg_41_6 : MG := (gN 13)
def lt_41_6 : MT := (mAnd (mTB (mB (eqD false) (mB ixD (mVar 13) (mC (.int 0))) (mC (.str [110, 111, 116, 101])))) (mTB (mB (eqD false) (mB ixD (mVar 13) (mC (.int 2))) (mVar 14))))
def le_41_6 : ME := (mB ixD (mVar 13) (mC (.int 3)))
def fg_41_7 : MG := (gN 14)
def fb_41_7 : MS := (mSeq (mAsg (mLc (mSeqI (mB addD (mB ixD (mVar 12) (mC (.int 9))) (mB ixD (mVar 12) (mC (.int 8))))) lg_41_6 lt_41_6 le_41_6 [13]) (gN 17))
 (mIfS (mTB (mB (eqD true) (mB ixD (mB ixD (mVar 12) (mC (.int 6))) (mVar 14)) (mIf (mTB (mB (eqD true) (mVar 17) (mLst mNil))) (mB ixD (mVar 17) (mNeg (mC (.int 1)))) (mB ixD (mB ixD (mVar 12) (mC (.int 7))) (mVar 14)))))
 (mRet (mC (.bl false)))
 mSkip))
def fg_41_8 : MG := (gN 3)
def fb_41_8 : MS := (mSeq (mAsg (mCall 24 (mCons (mVar 8) (mCons (mVar 9) mNil))) (gN 10))
 (mSeq (mIfS (mAnd (mTB (mB gtD (mCall 35 (mCons (mVar 1) (mCons (mC (.int 6)) mNil))) (mC (.int 0)))) (mNot (mTru (mIsi .tuple (mB ixD (mVar 10) (mC (.int 0)))))))
 (mAsg (mLc (mSeqI (mVar 10)) lg_41_2 lt_41_2 le_41_2 [11]) (gN 10))
 mSkip)
 (mSeq (mAsg (mB ixD (mVar 10) (mCall 35 (mCons (mVar 1) (mCons (mBl lenX (mCons (mVar 10) mNil)) mNil)))) (gN 11))
 (mSeq (mAsg (mCall 31 (mCons (mVar 8) (mCons (mVar 9) (mCons (mVar 11) mNil)))) (gN 12))
 (mSeq (mFor (mSeqI (mB addD (mB ixD (mVar 12) (mC (.int 9))) (mB ixD (mVar 12) (mC (.int 8))))) fg_41_3 fb_41_3)
 (mSeq (mFor (mRng1 (mCons (mBl lenX (mCons (mB ixD (mVar 2) (mC (.str [114, 111, 119, 115]))) mNil)) mNil)) fg_41_5 fb_41_5)
 (mSeq (mFor (mRng1 (mCons (mB ixD (mB ixD (mVar 2) (mC (.str [107, 105, 110, 100, 115]))) (mC (.int 4))) mNil)) fg_41_7 fb_41_7)
 (mSeq (mIfS (mTB (mB (eqD true) (mCall 33 (mCons (mVar 8) (mCons (mVar 12) mNil))) (mCall 33 (mCons (mVar 8) (mCons (mCall 31 (mCons (mVar 8) (mCons (mVar 9) (mCons (mVar 11) mNil)))) mNil)))))
 (mRet (mC (.bl false)))
 mSkip)
 (mAsg (mVar 12) (gN 9))))))))))
def lg_41_9 : MG := (gN 6)
def lt_41_9 : MT := (mAnd (mTru (mCall 20 (mCons (mVar 8) (mCons (mVar 9) (mCons (mVar 6) mNil))))) (mTB (mB (isD true) (mB ixD (mVar 4) (mVar 6)) (mC .non))))
def le_41_9 : ME := (mVar 6)
def n_41 : List Str := ["_law_script", "_law_row", "_law_h", "_law_turn", "_law_told_of", "_law_lines", "_law_k", "_law_given", "_law_house_here", "_law_now", "_law_some", "_law_step", "_law_later", "_law_thing", "_law_f", "_law_rows", "_law_gone", "_law_notes", "_law_name", "_law_j"]
def b_41 : MS := (mSeq (mAsg (mCall 34 (mCons (mVar 0) mNil)) (gN 1))
 (mSeq (mAsg (mCall 39 (mCons (mVar 1) (mCons (mC (.int 6)) mNil))) (gN 2))
 (mSeq (mIfS (mTB (mB gtD (mCall 35 (mCons (mVar 1) (mCons (mC (.int 3)) mNil))) (mC (.int 0))))
 (mSeq (mAsg (mTup (mCons (mLst (mCons (mTup (mCons (mC (.str [110, 111, 116, 101])) (mCons (mC (.int 0)) mNil))) (mCons (mTup (mCons (mC (.str [109, 97, 114, 107])) mNil)) (mCons (mTup (mCons (mC (.str [107, 101, 101, 112])) mNil)) (mCons (mTup (mCons (mC (.str [97, 100, 100])) (mCons (mC (.int 1)) mNil))) (mCons (mTup (mCons (mC (.str [104, 97, 110, 100])) (mCons (mC (.int 0)) (mCons (mC (.str [102, 48])) mNil)))) mNil)))))) (mCons (mTup mNil) mNil))) (gTp 2 (gsCons (gN 5) (gsCons (gN 15) gsNil))))
 (mSeq (mAsg (mB addD (mVar 5) (mLst (mCons (mTup (mCons (mC (.str [104, 97, 110, 100])) (mCons (mC (.int 1)) (mCons (mC (.str [102, 48])) mNil)))) (mCons (mTup (mCons (mC (.str [114, 101, 97, 100])) (mCons (mC (.int 0)) mNil))) mNil)))) (gN 5))
 (mSeq (mFor (mRng1 (mCons (mC (.int 2)) mNil)) fg_41_1 fb_41_1)
 (mSeq (mAsg (mB ixD (mLst (mCons (mTup (mCons (mTup (mCons (mC (.str [102, 48])) mNil)) (mCons (mTup mNil) mNil))) (mCons (mTup (mCons (mTup mNil) (mCons (mTup (mCons (mC (.str [102, 48])) mNil)) mNil))) (mCons (mTup (mCons (mTup (mCons (mC (.str [102, 48])) mNil)) (mCons (mTup (mCons (mC (.str [102, 48])) mNil)) mNil))) (mCons (mTup (mCons (mTup mNil) (mCons (mTup mNil) mNil))) mNil))))) (mCall 35 (mCons (mVar 1) (mCons (mC (.int 4)) mNil)))) (gN 7))
 (mAsg (mDks [([114, 111, 119, 115], (mVar 15)), ([107, 105, 110, 100, 115], (mTup (mCons (mC (.int 0)) (mCons (mC (.int 0)) (mCons (mTup mNil) (mCons (mC (.int 0)) (mCons (mC (.int 1)) mNil))))))), ([103, 105, 118, 101, 110], (mVar 7)), ([119, 97, 121], (mB ixD (mVar 2) (mC (.str [119, 97, 121]))))]) (gN 2))))))
 mSkip)
 (mSeq (mAsg (mTup (mCons (mCall 40 (mCons (mVar 2) mNil)) (mCons (mCall 17 (mCons (mCall 40 (mCons (mVar 2) mNil)) mNil)) mNil))) (gTp 2 (gsCons (gN 8) (gsCons (gN 9) gsNil))))
 (mSeq (mFor (mRng1 (mCons (mCall 35 (mCons (mVar 1) (mCons (mC (.int 30)) mNil))) mNil)) fg_41_8 fb_41_8)
 (mSeq (mAsg (mCall 33 (mCons (mVar 8) (mCons (mVar 9) mNil))) (gN 4))
 (mRet (mB (eqD false) (mLc (mRng1 (mCons (mBl lenX (mCons (mB ixD (mVar 2) (mC (.str [114, 111, 119, 115]))) mNil)) mNil)) lg_41_9 lt_41_9 le_41_9 [6]) (mLst mNil)))))))))
def tFns : List Fn := [⟨"is_from", ["value", "low", "high"], n_0, b_0, false, .glob⟩,
  ⟨"check_things", ["value"], n_1, b_1, false, .glob⟩,
  ⟨"names_of", ["things"], n_2, b_2, false, .glob⟩,
  ⟨"is_line", ["value", "things", "many", "lines"], n_3, b_3, false, .glob⟩,
  ⟨"check_programs", ["value", "things"], n_4, b_4, false, .glob⟩,
  ⟨"check_rights", ["value", "things", "many"], n_5, b_5, false, .glob⟩,
  ⟨"check_rule", ["value"], n_6, b_6, false, .glob⟩,
  ⟨"thing_of", ["line"], n_7, b_7, false, .glob⟩,
  ⟨"__init__", ["self", "programs", "things", "rights", "rule"], n_8, b_8, false, (.init "House")⟩,
  ⟨"is_from", ["value", "low", "high"], n_0, b_0, false, .glob⟩,
  ⟨"is_from", ["value", "low", "high"], n_0, b_0, false, .glob⟩,
  ⟨"is_from", ["value", "low", "high"], n_0, b_0, false, .glob⟩,
  ⟨"is_from", ["value", "low", "high"], n_0, b_0, false, .glob⟩,
  ⟨"is_from", ["value", "low", "high"], n_0, b_0, false, .glob⟩,
  ⟨"opened", ["standing"], n_14, b_14, true, .glob⟩,
  ⟨"shut", ["now"], n_15, b_15, false, .glob⟩,
  ⟨"begun_with", ["house", "blocks"], n_16, b_16, false, .glob⟩,
  ⟨"begin", ["house"], n_17, b_17, false, .glob⟩,
  ⟨"changed", ["things", "at", "thing"], n_18, b_18, false, .glob⟩,
  ⟨"line_of", ["house", "standing", "program"], n_19, b_19, false, .glob⟩,
  ⟨"can_step", ["house", "standing", "program"], n_20, b_20, false, .glob⟩,
  ⟨"wants", ["house", "standing", "program"], n_21, b_21, false, .glob⟩,
  ⟨"lent_ranks", ["house", "standing"], n_22, b_22, false, .glob⟩,
  ⟨"programs_let", ["house", "standing"], n_23, b_23, false, .glob⟩,
  ⟨"steps_of", ["house", "standing"], n_24, b_24, false, .glob⟩,
  ⟨"after_line", ["now", "program", "line"], n_25, b_25, false, .glob⟩,
  ⟨"after_more", ["now", "program", "line"], n_26, b_26, false, .glob⟩,
  ⟨"next_place", ["house", "standing", "program", "line"], n_27, b_27, false, .glob⟩,
  ⟨"mended", ["house", "blocks", "log"], n_28, b_28, false, .glob⟩,
  ⟨"behind", ["house", "standing", "step"], n_29, b_29, false, .glob⟩,
  ⟨"is_step", ["house", "standing", "value"], n_30, b_30, false, .glob⟩,
  ⟨"stepped", ["house", "standing", "step"], n_31, b_31, false, .glob⟩,
  ⟨"why", ["house", "standing", "program"], n_32, b_32, false, .glob⟩,
  ⟨"waiting", ["house", "standing"], n_33, b_33, false, .glob⟩,
  ⟨"_law_draws", ["_law_script"], n_34, b_34, true, .glob⟩,
  ⟨"_law_pick", ["_law_row", "_law_many"], n_35, b_35, false, .glob⟩,
  ⟨"_law_names", ["_law_kinds"], n_36, b_36, false, .glob⟩,
  ⟨"_law_kind", ["_law_word"], n_37, b_37, false, .glob⟩,
  ⟨"_law_line", ["_law_row", "_law_kinds", "_law_many", "_law_spot", "_law_lines"], n_38, b_38, false, .glob⟩,
  ⟨"_law_house", ["_law_row", "_law_most"], n_39, b_39, true, .glob⟩,
  ⟨"_law_made", ["_law_h"], n_40, b_40, false, .glob⟩,
  ⟨"law", ["_law_script"], n_41, b_41, false, .glob⟩]
def tCon : List (Str × D) := [("VALUES", (.int 4)), ("MOST_PROGRAMS", (.int 3)), ("MOST_LINES", (.int 10)), ("MOST_OF_KIND", (.int 2)), ("PLAIN", (.tup [(.str [109, 97, 114, 107]), (.str [107, 101, 101, 112]), (.str [115, 97, 121]), (.str [115, 116, 111, 112])])), ("NUMBERED", (.tup [(.str [115, 101, 116]), (.str [97, 100, 100])])), ("JUMPS", (.tup [(.str [122, 101, 114, 111]), (.str [103, 111])])), ("HAND", (.str [104, 97, 110, 100])), ("ORDERS", (.tup [(.str [97, 110, 121]), (.str [114, 105, 110, 103]), (.str [114, 97, 110, 107]), (.str [108, 101, 110, 116])])), ("MARKS", (.tup [(.str [111, 119, 110]), (.str [97, 108, 108])])), ("CUT", (.str [99, 117, 116])), ("MARK", (.str [109, 97, 114, 107])), ("NOTE", (.str [110, 111, 116, 101])), ("FIELDS", (.tup [(.str [112, 108, 97, 99, 101, 115]), (.str [110, 117, 109, 98, 101, 114, 115]), (.str [99, 101, 108, 108, 115]), (.str [111, 119, 110, 101, 114, 115]), (.str [112, 105, 112, 101, 115]), (.str [115, 105, 103, 110, 97, 108, 115]), (.str [98, 108, 111, 99, 107, 115]), (.str [100, 105, 115, 107]), (.str [98, 117, 102, 102, 101, 114]), (.str [108, 111, 103]), (.str [114, 105, 103, 104, 116, 115]), (.str [116, 117, 114, 110])]))]
def tBlt : List Str := ["len", "int", "tuple", "list", "max", "min", "isinstance", "bool", "str", "dict", "range", "enumerate", "zip", "sorted", "all", "any", "sum", "set"]
def tb : Tb := ⟨tFns, tCon, tBlt, tExs, tExm, tFld, tKds⟩
theorem u_0 (n : Nat) (x0 x1 x2 : D) (M : Mem) : callF tb (n + 1) 0 [x0, x1, x2] M = retOf false M.length (b_0 (callF tb n) [some x0, some x1, some x2] M) := (rfl)
theorem u_1 (n : Nat) (x0 : D) (M : Mem) : callF tb (n + 1) 1 [x0] M = retOf false M.length (b_1 (callF tb n) [some x0, none, none] M) := (rfl)
theorem u_2 (n : Nat) (x0 : D) (M : Mem) : callF tb (n + 1) 2 [x0] M = retOf false M.length (b_2 (callF tb n) [some x0, none, none, none] M) := (rfl)
theorem u_3 (n : Nat) (x0 x1 x2 x3 : D) (M : Mem) : callF tb (n + 1) 3 [x0, x1, x2, x3] M = retOf false M.length (b_3 (callF tb n) [some x0, some x1, some x2, some x3, none, none] M) := (rfl)
theorem u_4 (n : Nat) (x0 x1 : D) (M : Mem) : callF tb (n + 1) 4 [x0, x1] M = retOf false M.length (b_4 (callF tb n) [some x0, some x1, none, none, none, none] M) := (rfl)
theorem u_5 (n : Nat) (x0 x1 x2 : D) (M : Mem) : callF tb (n + 1) 5 [x0, x1, x2] M = retOf false M.length (b_5 (callF tb n) [some x0, some x1, some x2, none, none, none, none, none] M) := (rfl)
theorem u_6 (n : Nat) (x0 : D) (M : Mem) : callF tb (n + 1) 6 [x0] M = retOf false M.length (b_6 (callF tb n) [some x0, none] M) := (rfl)
theorem u_7 (n : Nat) (x0 : D) (M : Mem) : callF tb (n + 1) 7 [x0] M = retOf false M.length (b_7 (callF tb n) [some x0] M) := (rfl)
theorem u_8 (n : Nat) (x0 x1 x2 x3 x4 : D) (M : Mem) : callF tb (n + 1) 8 [x0, x1, x2, x3, x4] M = retOf false M.length (b_8 (callF tb n) [some x0, some x1, some x2, some x3, some x4] M) := (rfl)
theorem u_14 (n : Nat) (x0 : D) (M : Mem) : callF tb (n + 1) 14 [x0] M = retOf true M.length (b_14 (callF tb n) [some x0] M) := (rfl)
theorem u_15 (n : Nat) (x0 : D) (M : Mem) : callF tb (n + 1) 15 [x0] M = retOf false M.length (b_15 (callF tb n) [some x0, none] M) := (rfl)
theorem u_16 (n : Nat) (x0 x1 : D) (M : Mem) : callF tb (n + 1) 16 [x0, x1] M = retOf false M.length (b_16 (callF tb n) [some x0, some x1, none, none, none, none, none, none] M) := (rfl)
theorem u_17 (n : Nat) (x0 : D) (M : Mem) : callF tb (n + 1) 17 [x0] M = retOf false M.length (b_17 (callF tb n) [some x0] M) := (rfl)
theorem u_18 (n : Nat) (x0 x1 x2 : D) (M : Mem) : callF tb (n + 1) 18 [x0, x1, x2] M = retOf false M.length (b_18 (callF tb n) [some x0, some x1, some x2] M) := (rfl)
theorem u_19 (n : Nat) (x0 x1 x2 : D) (M : Mem) : callF tb (n + 1) 19 [x0, x1, x2] M = retOf false M.length (b_19 (callF tb n) [some x0, some x1, some x2, none, none] M) := (rfl)
theorem u_20 (n : Nat) (x0 x1 x2 : D) (M : Mem) : callF tb (n + 1) 20 [x0, x1, x2] M = retOf false M.length (b_20 (callF tb n) [some x0, some x1, some x2, none, none, none] M) := (rfl)
theorem u_21 (n : Nat) (x0 x1 x2 : D) (M : Mem) : callF tb (n + 1) 21 [x0, x1, x2] M = retOf false M.length (b_21 (callF tb n) [some x0, some x1, some x2, none] M) := (rfl)
theorem u_22 (n : Nat) (x0 x1 : D) (M : Mem) : callF tb (n + 1) 22 [x0, x1] M = retOf false M.length (b_22 (callF tb n) [some x0, some x1, none, none, none, none, none, none] M) := (rfl)
theorem u_23 (n : Nat) (x0 x1 : D) (M : Mem) : callF tb (n + 1) 23 [x0, x1] M = retOf false M.length (b_23 (callF tb n) [some x0, some x1, none, none, none, none, none] M) := (rfl)
theorem u_24 (n : Nat) (x0 x1 : D) (M : Mem) : callF tb (n + 1) 24 [x0, x1] M = retOf false M.length (b_24 (callF tb n) [some x0, some x1, none] M) := (rfl)
theorem u_25 (n : Nat) (x0 x1 x2 : D) (M : Mem) : callF tb (n + 1) 25 [x0, x1, x2] M = retOf false M.length (b_25 (callF tb n) [some x0, some x1, some x2, none, none, none] M) := (rfl)
theorem u_26 (n : Nat) (x0 x1 x2 : D) (M : Mem) : callF tb (n + 1) 26 [x0, x1, x2] M = retOf false M.length (b_26 (callF tb n) [some x0, some x1, some x2, none, none, none] M) := (rfl)
theorem u_27 (n : Nat) (x0 x1 x2 x3 : D) (M : Mem) : callF tb (n + 1) 27 [x0, x1, x2, x3] M = retOf false M.length (b_27 (callF tb n) [some x0, some x1, some x2, some x3, none] M) := (rfl)
theorem u_28 (n : Nat) (x0 x1 x2 : D) (M : Mem) : callF tb (n + 1) 28 [x0, x1, x2] M = retOf false M.length (b_28 (callF tb n) [some x0, some x1, some x2, none, none, none, none, none] M) := (rfl)
theorem u_29 (n : Nat) (x0 x1 x2 : D) (M : Mem) : callF tb (n + 1) 29 [x0, x1, x2] M = retOf false M.length (b_29 (callF tb n) [some x0, some x1, some x2, none, none] M) := (rfl)
theorem u_30 (n : Nat) (x0 x1 x2 : D) (M : Mem) : callF tb (n + 1) 30 [x0, x1, x2] M = retOf false M.length (b_30 (callF tb n) [some x0, some x1, some x2] M) := (rfl)
theorem u_31 (n : Nat) (x0 x1 x2 : D) (M : Mem) : callF tb (n + 1) 31 [x0, x1, x2] M = retOf false M.length (b_31 (callF tb n) [some x0, some x1, some x2] M) := (rfl)
theorem u_32 (n : Nat) (x0 x1 x2 : D) (M : Mem) : callF tb (n + 1) 32 [x0, x1, x2] M = retOf false M.length (b_32 (callF tb n) [some x0, some x1, some x2, none, none] M) := (rfl)
theorem u_33 (n : Nat) (x0 x1 : D) (M : Mem) : callF tb (n + 1) 33 [x0, x1] M = retOf false M.length (b_33 (callF tb n) [some x0, some x1, none] M) := (rfl)
theorem u_34 (n : Nat) (x0 : D) (M : Mem) : callF tb (n + 1) 34 [x0] M = retOf true M.length (b_34 (callF tb n) [some x0] M) := (rfl)
theorem u_35 (n : Nat) (x0 x1 : D) (M : Mem) : callF tb (n + 1) 35 [x0, x1] M = retOf false M.length (b_35 (callF tb n) [some x0, some x1, none, none] M) := (rfl)
theorem u_36 (n : Nat) (x0 : D) (M : Mem) : callF tb (n + 1) 36 [x0] M = retOf false M.length (b_36 (callF tb n) [some x0, none, none, none, none] M) := (rfl)
theorem u_37 (n : Nat) (x0 : D) (M : Mem) : callF tb (n + 1) 37 [x0] M = retOf false M.length (b_37 (callF tb n) [some x0] M) := (rfl)
theorem u_38 (n : Nat) (x0 x1 x2 x3 x4 : D) (M : Mem) : callF tb (n + 1) 38 [x0, x1, x2, x3, x4] M = retOf false M.length (b_38 (callF tb n) [some x0, some x1, some x2, some x3, some x4, none, none, none, none, none, none, none, none, none] M) := (rfl)
theorem u_39 (n : Nat) (x0 x1 : D) (M : Mem) : callF tb (n + 1) 39 [x0, x1] M = retOf true M.length (b_39 (callF tb n) [some x0, some x1, none, none, none, none, none, none, none, none, none, none, none, none] M) := (rfl)
theorem u_40 (n : Nat) (x0 : D) (M : Mem) : callF tb (n + 1) 40 [x0] M = retOf false M.length (b_40 (callF tb n) [some x0] M) := (rfl)
theorem u_41 (n : Nat) (x0 : D) (M : Mem) : callF tb (n + 1) 41 [x0] M = retOf false M.length (b_41 (callF tb n) [some x0, none, none, none, none, none, none, none, none, none, none, none, none, none, none, none, none, none, none, none] M) := (rfl)
def mt_0 : List (Nat × Nat) := []
theorem c_0 : OkSs tb ⟨defScope (topS 19), n_0, fun _ => true, mt_0, true, true⟩ (defBody (topS 19)) b_0 := cSs_ok tb (n := 60) (by kernel_rfl)
theorem sc_0 : FnScope n_0 ["value", "low", "high"] (defScope (topS 19)) := ⟨rfl, rfl, rfl, by decide +kernel, rfl, by decide +kernel, by decide +kernel⟩
def mt_1 : List (Nat × Nat) := []
theorem c_1 : OkSs tb ⟨defScope (topS 20), n_1, fun _ => true, mt_1, true, true⟩ (defBody (topS 20)) b_1 := cSs_ok tb (n := 60) (by kernel_rfl)
theorem sc_1 : FnScope n_1 ["value"] (defScope (topS 20)) := ⟨rfl, rfl, rfl, by decide +kernel, rfl, by decide +kernel, by decide +kernel⟩
def mt_2 : List (Nat × Nat) := []
theorem c_2 : OkSs tb ⟨defScope (topS 21), n_2, fun _ => true, mt_2, true, true⟩ (defBody (topS 21)) b_2 := cSs_ok tb (n := 60) (by kernel_rfl)
theorem sc_2 : FnScope n_2 ["things"] (defScope (topS 21)) := ⟨rfl, rfl, rfl, by decide +kernel, rfl, by decide +kernel, by decide +kernel⟩
def mt_3 : List (Nat × Nat) := []
theorem c_3 : OkSs tb ⟨defScope (topS 22), n_3, fun _ => true, mt_3, true, true⟩ (defBody (topS 22)) b_3 := cSs_ok tb (n := 60) (by kernel_rfl)
theorem sc_3 : FnScope n_3 ["value", "things", "many", "lines"] (defScope (topS 22)) := ⟨rfl, rfl, rfl, by decide +kernel, rfl, by decide +kernel, by decide +kernel⟩
def mt_4 : List (Nat × Nat) := []
theorem c_4 : OkSs tb ⟨defScope (topS 23), n_4, fun _ => true, mt_4, true, true⟩ (defBody (topS 23)) b_4 := cSs_ok tb (n := 60) (by kernel_rfl)
theorem sc_4 : FnScope n_4 ["value", "things"] (defScope (topS 23)) := ⟨rfl, rfl, rfl, by decide +kernel, rfl, by decide +kernel, by decide +kernel⟩
def mt_5 : List (Nat × Nat) := []
theorem c_5 : OkSs tb ⟨defScope (topS 24), n_5, fun _ => true, mt_5, true, true⟩ (defBody (topS 24)) b_5 := cSs_ok tb (n := 60) (by kernel_rfl)
theorem sc_5 : FnScope n_5 ["value", "things", "many"] (defScope (topS 24)) := ⟨rfl, rfl, rfl, by decide +kernel, rfl, by decide +kernel, by decide +kernel⟩
def mt_6 : List (Nat × Nat) := []
theorem c_6 : OkSs tb ⟨defScope (topS 25), n_6, fun _ => true, mt_6, true, true⟩ (defBody (topS 25)) b_6 := cSs_ok tb (n := 60) (by kernel_rfl)
theorem sc_6 : FnScope n_6 ["value"] (defScope (topS 25)) := ⟨rfl, rfl, rfl, by decide +kernel, rfl, by decide +kernel, by decide +kernel⟩
def mt_7 : List (Nat × Nat) := []
theorem c_7 : OkSs tb ⟨defScope (topS 26), n_7, fun _ => true, mt_7, true, true⟩ (defBody (topS 26)) b_7 := cSs_ok tb (n := 60) (by kernel_rfl)
theorem sc_7 : FnScope n_7 ["line"] (defScope (topS 26)) := ⟨rfl, rfl, rfl, by decide +kernel, rfl, by decide +kernel, by decide +kernel⟩
def mt_8 : List (Nat × Nat) := []
theorem c_8 : OkSs tb ⟨defScope (topC 32 0), n_8, fun _ => true, mt_8, true, true⟩ (defBody (topC 32 0)) b_8 := cSs_ok tb (n := 60) (by kernel_rfl)
theorem sc_8 : FnScope n_8 ["self", "programs", "things", "rights", "rule"] (defScope (topC 32 0)) := ⟨rfl, rfl, rfl, by decide +kernel, rfl, by decide +kernel, by decide +kernel⟩
def mt_14 : List (Nat × Nat) := []
theorem c_14 : OkSs tb ⟨defScope (topS 33), n_14, fun _ => true, mt_14, true, true⟩ (defBody (topS 33)) b_14 := cSs_ok tb (n := 60) (by kernel_rfl)
theorem sc_14 : FnScope n_14 ["standing"] (defScope (topS 33)) := ⟨rfl, rfl, rfl, by decide +kernel, rfl, by decide +kernel, by decide +kernel⟩
def mt_15 : List (Nat × Nat) := []
theorem c_15 : OkSs tb ⟨defScope (topS 34), n_15, fun _ => true, mt_15, true, true⟩ (defBody (topS 34)) b_15 := cSs_ok tb (n := 60) (by kernel_rfl)
theorem sc_15 : FnScope n_15 ["now"] (defScope (topS 34)) := ⟨rfl, rfl, rfl, by decide +kernel, rfl, by decide +kernel, by decide +kernel⟩
def mt_16 : List (Nat × Nat) := []
theorem c_16 : OkSs tb ⟨defScope (topS 35), n_16, fun _ => true, mt_16, true, true⟩ (defBody (topS 35)) b_16 := cSs_ok tb (n := 60) (by kernel_rfl)
theorem sc_16 : FnScope n_16 ["house", "blocks"] (defScope (topS 35)) := ⟨rfl, rfl, rfl, by decide +kernel, rfl, by decide +kernel, by decide +kernel⟩
def mt_17 : List (Nat × Nat) := []
theorem c_17 : OkSs tb ⟨defScope (topS 36), n_17, fun _ => true, mt_17, true, true⟩ (defBody (topS 36)) b_17 := cSs_ok tb (n := 60) (by kernel_rfl)
theorem sc_17 : FnScope n_17 ["house"] (defScope (topS 36)) := ⟨rfl, rfl, rfl, by decide +kernel, rfl, by decide +kernel, by decide +kernel⟩
def mt_18 : List (Nat × Nat) := []
theorem c_18 : OkSs tb ⟨defScope (topS 37), n_18, fun _ => true, mt_18, true, true⟩ (defBody (topS 37)) b_18 := cSs_ok tb (n := 60) (by kernel_rfl)
theorem sc_18 : FnScope n_18 ["things", "at", "thing"] (defScope (topS 37)) := ⟨rfl, rfl, rfl, by decide +kernel, rfl, by decide +kernel, by decide +kernel⟩
def mt_19 : List (Nat × Nat) := []
theorem c_19 : OkSs tb ⟨defScope (topS 38), n_19, fun _ => true, mt_19, true, true⟩ (defBody (topS 38)) b_19 := cSs_ok tb (n := 60) (by kernel_rfl)
theorem sc_19 : FnScope n_19 ["house", "standing", "program"] (defScope (topS 38)) := ⟨rfl, rfl, rfl, by decide +kernel, rfl, by decide +kernel, by decide +kernel⟩
def mt_20 : List (Nat × Nat) := []
theorem c_20 : OkSs tb ⟨defScope (topS 39), n_20, fun _ => true, mt_20, true, true⟩ (defBody (topS 39)) b_20 := cSs_ok tb (n := 60) (by kernel_rfl)
theorem sc_20 : FnScope n_20 ["house", "standing", "program"] (defScope (topS 39)) := ⟨rfl, rfl, rfl, by decide +kernel, rfl, by decide +kernel, by decide +kernel⟩
def mt_21 : List (Nat × Nat) := []
theorem c_21 : OkSs tb ⟨defScope (topS 40), n_21, fun _ => true, mt_21, true, true⟩ (defBody (topS 40)) b_21 := cSs_ok tb (n := 60) (by kernel_rfl)
theorem sc_21 : FnScope n_21 ["house", "standing", "program"] (defScope (topS 40)) := ⟨rfl, rfl, rfl, by decide +kernel, rfl, by decide +kernel, by decide +kernel⟩
def mt_22 : List (Nat × Nat) := []
theorem c_22 : OkSs tb ⟨defScope (topS 41), n_22, fun _ => true, mt_22, true, true⟩ (defBody (topS 41)) b_22 := cSs_ok tb (n := 60) (by kernel_rfl)
theorem sc_22 : FnScope n_22 ["house", "standing"] (defScope (topS 41)) := ⟨rfl, rfl, rfl, by decide +kernel, rfl, by decide +kernel, by decide +kernel⟩
def mt_23 : List (Nat × Nat) := []
theorem c_23 : OkSs tb ⟨defScope (topS 42), n_23, fun _ => true, mt_23, true, true⟩ (defBody (topS 42)) b_23 := cSs_ok tb (n := 60) (by kernel_rfl)
theorem sc_23 : FnScope n_23 ["house", "standing"] (defScope (topS 42)) := ⟨rfl, rfl, rfl, by decide +kernel, rfl, by decide +kernel, by decide +kernel⟩
def mt_24 : List (Nat × Nat) := []
theorem c_24 : OkSs tb ⟨defScope (topS 43), n_24, fun _ => true, mt_24, true, true⟩ (defBody (topS 43)) b_24 := cSs_ok tb (n := 60) (by kernel_rfl)
theorem sc_24 : FnScope n_24 ["house", "standing"] (defScope (topS 43)) := ⟨rfl, rfl, rfl, by decide +kernel, rfl, by decide +kernel, by decide +kernel⟩
def mt_25 : List (Nat × Nat) := []
theorem c_25 : OkSs tb ⟨defScope (topS 44), n_25, fun _ => true, mt_25, true, true⟩ (defBody (topS 44)) b_25 := cSs_ok tb (n := 60) (by kernel_rfl)
theorem sc_25 : FnScope n_25 ["now", "program", "line"] (defScope (topS 44)) := ⟨rfl, rfl, rfl, by decide +kernel, rfl, by decide +kernel, by decide +kernel⟩
def mt_26 : List (Nat × Nat) := []
theorem c_26 : OkSs tb ⟨defScope (topS 45), n_26, fun _ => true, mt_26, true, true⟩ (defBody (topS 45)) b_26 := cSs_ok tb (n := 60) (by kernel_rfl)
theorem sc_26 : FnScope n_26 ["now", "program", "line"] (defScope (topS 45)) := ⟨rfl, rfl, rfl, by decide +kernel, rfl, by decide +kernel, by decide +kernel⟩
def mt_27 : List (Nat × Nat) := []
theorem c_27 : OkSs tb ⟨defScope (topS 46), n_27, fun _ => true, mt_27, true, true⟩ (defBody (topS 46)) b_27 := cSs_ok tb (n := 60) (by kernel_rfl)
theorem sc_27 : FnScope n_27 ["house", "standing", "program", "line"] (defScope (topS 46)) := ⟨rfl, rfl, rfl, by decide +kernel, rfl, by decide +kernel, by decide +kernel⟩
def mt_28 : List (Nat × Nat) := [(225, 14)]
theorem c_28 : OkSs tb ⟨defScope (topS 47), n_28, fun _ => true, mt_28, true, true⟩ (defBody (topS 47)) b_28 := cSs_ok tb (n := 60) (by kernel_rfl)
theorem sc_28 : FnScope n_28 ["house", "blocks", "log"] (defScope (topS 47)) := ⟨rfl, rfl, rfl, by decide +kernel, rfl, by decide +kernel, by decide +kernel⟩
def mt_29 : List (Nat × Nat) := []
theorem c_29 : OkSs tb ⟨defScope (topS 48), n_29, fun _ => true, mt_29, true, true⟩ (defBody (topS 48)) b_29 := cSs_ok tb (n := 60) (by kernel_rfl)
theorem sc_29 : FnScope n_29 ["house", "standing", "step"] (defScope (topS 48)) := ⟨rfl, rfl, rfl, by decide +kernel, rfl, by decide +kernel, by decide +kernel⟩
def mt_30 : List (Nat × Nat) := []
theorem c_30 : OkSs tb ⟨defScope (topS 49), n_30, fun _ => true, mt_30, true, true⟩ (defBody (topS 49)) b_30 := cSs_ok tb (n := 60) (by kernel_rfl)
theorem sc_30 : FnScope n_30 ["house", "standing", "value"] (defScope (topS 49)) := ⟨rfl, rfl, rfl, by decide +kernel, rfl, by decide +kernel, by decide +kernel⟩
def mt_31 : List (Nat × Nat) := []
theorem c_31 : OkSs tb ⟨defScope (topS 50), n_31, fun _ => true, mt_31, true, true⟩ (defBody (topS 50)) b_31 := cSs_ok tb (n := 60) (by kernel_rfl)
theorem sc_31 : FnScope n_31 ["house", "standing", "step"] (defScope (topS 50)) := ⟨rfl, rfl, rfl, by decide +kernel, rfl, by decide +kernel, by decide +kernel⟩
def mt_32 : List (Nat × Nat) := []
theorem c_32 : OkSs tb ⟨defScope (topS 52), n_32, fun _ => true, mt_32, true, true⟩ (defBody (topS 52)) b_32 := cSs_ok tb (n := 60) (by kernel_rfl)
theorem sc_32 : FnScope n_32 ["house", "standing", "program"] (defScope (topS 52)) := ⟨rfl, rfl, rfl, by decide +kernel, rfl, by decide +kernel, by decide +kernel⟩
def mt_33 : List (Nat × Nat) := []
theorem c_33 : OkSs tb ⟨defScope (topS 53), n_33, fun _ => true, mt_33, true, true⟩ (defBody (topS 53)) b_33 := cSs_ok tb (n := 60) (by kernel_rfl)
theorem sc_33 : FnScope n_33 ["house", "standing"] (defScope (topS 53)) := ⟨rfl, rfl, rfl, by decide +kernel, rfl, by decide +kernel, by decide +kernel⟩
def mt_34 : List (Nat × Nat) := [(267, 11)]
theorem c_34 : OkSs tb ⟨defScope (topS 55), n_34, fun _ => true, mt_34, true, true⟩ (defBody (topS 55)) b_34 := cSs_ok tb (n := 60) (by kernel_rfl)
theorem sc_34 : FnScope n_34 ["_law_script"] (defScope (topS 55)) := ⟨rfl, rfl, rfl, by decide +kernel, rfl, by decide +kernel, by decide +kernel⟩
def mt_35 : List (Nat × Nat) := []
theorem c_35 : OkSs tb ⟨defScope (topS 56), n_35, fun _ => true, mt_35, true, true⟩ (defBody (topS 56)) b_35 := cSs_ok tb (n := 60) (by kernel_rfl)
theorem sc_35 : FnScope n_35 ["_law_row", "_law_many"] (defScope (topS 56)) := ⟨rfl, rfl, rfl, by decide +kernel, rfl, by decide +kernel, by decide +kernel⟩
def mt_36 : List (Nat × Nat) := []
theorem c_36 : OkSs tb ⟨defScope (topS 57), n_36, fun _ => true, mt_36, true, true⟩ (defBody (topS 57)) b_36 := cSs_ok tb (n := 60) (by kernel_rfl)
theorem sc_36 : FnScope n_36 ["_law_kinds"] (defScope (topS 57)) := ⟨rfl, rfl, rfl, by decide +kernel, rfl, by decide +kernel, by decide +kernel⟩
def mt_37 : List (Nat × Nat) := []
theorem c_37 : OkSs tb ⟨defScope (topS 58), n_37, fun _ => true, mt_37, true, true⟩ (defBody (topS 58)) b_37 := cSs_ok tb (n := 60) (by kernel_rfl)
theorem sc_37 : FnScope n_37 ["_law_word"] (defScope (topS 58)) := ⟨rfl, rfl, rfl, by decide +kernel, rfl, by decide +kernel, by decide +kernel⟩
def mt_38 : List (Nat × Nat) := []
theorem c_38 : OkSs tb ⟨defScope (topS 59), n_38, fun _ => true, mt_38, true, true⟩ (defBody (topS 59)) b_38 := cSs_ok tb (n := 60) (by kernel_rfl)
theorem sc_38 : FnScope n_38 ["_law_row", "_law_kinds", "_law_many", "_law_spot", "_law_lines"] (defScope (topS 59)) := ⟨rfl, rfl, rfl, by decide +kernel, rfl, by decide +kernel, by decide +kernel⟩
def mt_39 : List (Nat × Nat) := []
theorem c_39 : OkSs tb ⟨defScope (topS 60), n_39, fun _ => true, mt_39, true, true⟩ (defBody (topS 60)) b_39 := cSs_ok tb (n := 60) (by kernel_rfl)
theorem sc_39 : FnScope n_39 ["_law_row", "_law_most"] (defScope (topS 60)) := ⟨rfl, rfl, rfl, by decide +kernel, rfl, by decide +kernel, by decide +kernel⟩
def mt_40 : List (Nat × Nat) := []
theorem c_40 : OkSs tb ⟨defScope (topS 61), n_40, fun _ => true, mt_40, true, true⟩ (defBody (topS 61)) b_40 := cSs_ok tb (n := 60) (by kernel_rfl)
theorem sc_40 : FnScope n_40 ["_law_h"] (defScope (topS 61)) := ⟨rfl, rfl, rfl, by decide +kernel, rfl, by decide +kernel, by decide +kernel⟩
def mt_41 : List (Nat × Nat) := []
theorem c_41 : OkSs tb ⟨defScope (topS 62), n_41, fun _ => true, mt_41, true, true⟩ (defBody (topS 62)) b_41 := cSs_ok tb (n := 60) (by kernel_rfl)
theorem sc_41 : FnScope n_41 ["_law_script"] (defScope (topS 62)) := ⟨rfl, rfl, rfl, by decide +kernel, rfl, by decide +kernel, by decide +kernel⟩
theorem all_mk {l : PySem.W.OpenLaw} {w : World} {K : PySem.W.Frag} {h : Heap} {mg : Str → Option Value} {fa : Addr} (X : K.In h) (G : h.Ns mainGlobals mg) (hfa : mg "law" = some (.ref fa))
    {C0 : Addr} (ca0 : PySem.W.nsIn K mainGlobals "House" = some (some (.ref C0))) (cp0 : PySem.W.plainGet K C0 Str.empty = true) (ch0 : PySem.W.hasDictIn K C0 = true) (co0 : PySem.W.plainOver K C0 = true) (cs0 : PySem.W.findIn K (.ref C0) "__setattr__" = some (some (.builtin "object.__setattr__"))) (cm0 : PySem.W.makesIn K C0 = true) (ck0 : PySem.W.keepIn K (.ref C0) = true)
    {f0 : Addr} {oc0 : Value} {od0 an0 : Option Addr} {sl0 : Array (Option Value)} {kV0 dc0 pm0 cd0 ct0 : Value}
    (a0 : PySem.W.nsIn K mainGlobals "is_from" = some (some (.ref f0))) (l0 : K.lookup f0 = some ⟨oc0, od0, .func (PySem.W.fnOf "is_from" "is_from" (defArgs (topS 19)) (defBody (topS 19)) (defScope (topS 19)) .none kV0 dc0 pm0 an0 cd0 ct0), sl0⟩) (c0 : PySem.W.codeIn K cd0 "is_from" = true) (k0 : PySem.W.keepIn K (.ref f0) = true)
    {f1 : Addr} {oc1 : Value} {od1 an1 : Option Addr} {sl1 : Array (Option Value)} {kV1 dc1 pm1 cd1 ct1 : Value}
    (a1 : PySem.W.nsIn K mainGlobals "check_things" = some (some (.ref f1))) (l1 : K.lookup f1 = some ⟨oc1, od1, .func (PySem.W.fnOf "check_things" "check_things" (defArgs (topS 20)) (defBody (topS 20)) (defScope (topS 20)) .none kV1 dc1 pm1 an1 cd1 ct1), sl1⟩) (c1 : PySem.W.codeIn K cd1 "check_things" = true) (k1 : PySem.W.keepIn K (.ref f1) = true)
    {f2 : Addr} {oc2 : Value} {od2 an2 : Option Addr} {sl2 : Array (Option Value)} {kV2 dc2 pm2 cd2 ct2 : Value}
    (a2 : PySem.W.nsIn K mainGlobals "names_of" = some (some (.ref f2))) (l2 : K.lookup f2 = some ⟨oc2, od2, .func (PySem.W.fnOf "names_of" "names_of" (defArgs (topS 21)) (defBody (topS 21)) (defScope (topS 21)) .none kV2 dc2 pm2 an2 cd2 ct2), sl2⟩) (c2 : PySem.W.codeIn K cd2 "names_of" = true) (k2 : PySem.W.keepIn K (.ref f2) = true)
    {f3 : Addr} {oc3 : Value} {od3 an3 : Option Addr} {sl3 : Array (Option Value)} {kV3 dc3 pm3 cd3 ct3 : Value}
    (a3 : PySem.W.nsIn K mainGlobals "is_line" = some (some (.ref f3))) (l3 : K.lookup f3 = some ⟨oc3, od3, .func (PySem.W.fnOf "is_line" "is_line" (defArgs (topS 22)) (defBody (topS 22)) (defScope (topS 22)) .none kV3 dc3 pm3 an3 cd3 ct3), sl3⟩) (c3 : PySem.W.codeIn K cd3 "is_line" = true) (k3 : PySem.W.keepIn K (.ref f3) = true)
    {f4 : Addr} {oc4 : Value} {od4 an4 : Option Addr} {sl4 : Array (Option Value)} {kV4 dc4 pm4 cd4 ct4 : Value}
    (a4 : PySem.W.nsIn K mainGlobals "check_programs" = some (some (.ref f4))) (l4 : K.lookup f4 = some ⟨oc4, od4, .func (PySem.W.fnOf "check_programs" "check_programs" (defArgs (topS 23)) (defBody (topS 23)) (defScope (topS 23)) .none kV4 dc4 pm4 an4 cd4 ct4), sl4⟩) (c4 : PySem.W.codeIn K cd4 "check_programs" = true) (k4 : PySem.W.keepIn K (.ref f4) = true)
    {f5 : Addr} {oc5 : Value} {od5 an5 : Option Addr} {sl5 : Array (Option Value)} {kV5 dc5 pm5 cd5 ct5 : Value}
    (a5 : PySem.W.nsIn K mainGlobals "check_rights" = some (some (.ref f5))) (l5 : K.lookup f5 = some ⟨oc5, od5, .func (PySem.W.fnOf "check_rights" "check_rights" (defArgs (topS 24)) (defBody (topS 24)) (defScope (topS 24)) .none kV5 dc5 pm5 an5 cd5 ct5), sl5⟩) (c5 : PySem.W.codeIn K cd5 "check_rights" = true) (k5 : PySem.W.keepIn K (.ref f5) = true)
    {f6 : Addr} {oc6 : Value} {od6 an6 : Option Addr} {sl6 : Array (Option Value)} {kV6 dc6 pm6 cd6 ct6 : Value}
    (a6 : PySem.W.nsIn K mainGlobals "check_rule" = some (some (.ref f6))) (l6 : K.lookup f6 = some ⟨oc6, od6, .func (PySem.W.fnOf "check_rule" "check_rule" (defArgs (topS 25)) (defBody (topS 25)) (defScope (topS 25)) .none kV6 dc6 pm6 an6 cd6 ct6), sl6⟩) (c6 : PySem.W.codeIn K cd6 "check_rule" = true) (k6 : PySem.W.keepIn K (.ref f6) = true)
    {f7 : Addr} {oc7 : Value} {od7 an7 : Option Addr} {sl7 : Array (Option Value)} {kV7 dc7 pm7 cd7 ct7 : Value}
    (a7 : PySem.W.nsIn K mainGlobals "thing_of" = some (some (.ref f7))) (l7 : K.lookup f7 = some ⟨oc7, od7, .func (PySem.W.fnOf "thing_of" "thing_of" (defArgs (topS 26)) (defBody (topS 26)) (defScope (topS 26)) .none kV7 dc7 pm7 an7 cd7 ct7), sl7⟩) (c7 : PySem.W.codeIn K cd7 "thing_of" = true) (k7 : PySem.W.keepIn K (.ref f7) = true)
    {f8 : Addr} {oc8 : Value} {od8 an8 : Option Addr} {sl8 : Array (Option Value)} {kV8 dc8 pm8 cd8 ct8 : Value}
    (a8 : PySem.W.findIn K (.ref C0) "__init__" = some (some (.ref f8))) (i8 : PySem.W.isFn K (.ref f8) = true) (l8 : K.lookup f8 = some ⟨oc8, od8, .func (PySem.W.fnOf "__init__" "House.__init__" (defArgs (topC 32 0)) (defBody (topC 32 0)) (defScope (topC 32 0)) .none kV8 dc8 pm8 an8 cd8 ct8), sl8⟩) (c8 : PySem.W.codeIn K cd8 "House.__init__" = true) (k8 : PySem.W.keepIn K (.ref f8) = true)
    {f14 : Addr} {oc14 : Value} {od14 an14 : Option Addr} {sl14 : Array (Option Value)} {kV14 dc14 pm14 cd14 ct14 : Value}
    (a14 : PySem.W.nsIn K mainGlobals "opened" = some (some (.ref f14))) (l14 : K.lookup f14 = some ⟨oc14, od14, .func (PySem.W.fnOf "opened" "opened" (defArgs (topS 33)) (defBody (topS 33)) (defScope (topS 33)) .none kV14 dc14 pm14 an14 cd14 ct14), sl14⟩) (c14 : PySem.W.codeIn K cd14 "opened" = true) (k14 : PySem.W.keepIn K (.ref f14) = true)
    {f15 : Addr} {oc15 : Value} {od15 an15 : Option Addr} {sl15 : Array (Option Value)} {kV15 dc15 pm15 cd15 ct15 : Value}
    (a15 : PySem.W.nsIn K mainGlobals "shut" = some (some (.ref f15))) (l15 : K.lookup f15 = some ⟨oc15, od15, .func (PySem.W.fnOf "shut" "shut" (defArgs (topS 34)) (defBody (topS 34)) (defScope (topS 34)) .none kV15 dc15 pm15 an15 cd15 ct15), sl15⟩) (c15 : PySem.W.codeIn K cd15 "shut" = true) (k15 : PySem.W.keepIn K (.ref f15) = true)
    {f16 : Addr} {oc16 : Value} {od16 an16 : Option Addr} {sl16 : Array (Option Value)} {kV16 dc16 pm16 cd16 ct16 : Value}
    (a16 : PySem.W.nsIn K mainGlobals "begun_with" = some (some (.ref f16))) (l16 : K.lookup f16 = some ⟨oc16, od16, .func (PySem.W.fnOf "begun_with" "begun_with" (defArgs (topS 35)) (defBody (topS 35)) (defScope (topS 35)) .none kV16 dc16 pm16 an16 cd16 ct16), sl16⟩) (c16 : PySem.W.codeIn K cd16 "begun_with" = true) (k16 : PySem.W.keepIn K (.ref f16) = true)
    {f17 : Addr} {oc17 : Value} {od17 an17 : Option Addr} {sl17 : Array (Option Value)} {kV17 dc17 pm17 cd17 ct17 : Value}
    (a17 : PySem.W.nsIn K mainGlobals "begin" = some (some (.ref f17))) (l17 : K.lookup f17 = some ⟨oc17, od17, .func (PySem.W.fnOf "begin" "begin" (defArgs (topS 36)) (defBody (topS 36)) (defScope (topS 36)) .none kV17 dc17 pm17 an17 cd17 ct17), sl17⟩) (c17 : PySem.W.codeIn K cd17 "begin" = true) (k17 : PySem.W.keepIn K (.ref f17) = true)
    {f18 : Addr} {oc18 : Value} {od18 an18 : Option Addr} {sl18 : Array (Option Value)} {kV18 dc18 pm18 cd18 ct18 : Value}
    (a18 : PySem.W.nsIn K mainGlobals "changed" = some (some (.ref f18))) (l18 : K.lookup f18 = some ⟨oc18, od18, .func (PySem.W.fnOf "changed" "changed" (defArgs (topS 37)) (defBody (topS 37)) (defScope (topS 37)) .none kV18 dc18 pm18 an18 cd18 ct18), sl18⟩) (c18 : PySem.W.codeIn K cd18 "changed" = true) (k18 : PySem.W.keepIn K (.ref f18) = true)
    {f19 : Addr} {oc19 : Value} {od19 an19 : Option Addr} {sl19 : Array (Option Value)} {kV19 dc19 pm19 cd19 ct19 : Value}
    (a19 : PySem.W.nsIn K mainGlobals "line_of" = some (some (.ref f19))) (l19 : K.lookup f19 = some ⟨oc19, od19, .func (PySem.W.fnOf "line_of" "line_of" (defArgs (topS 38)) (defBody (topS 38)) (defScope (topS 38)) .none kV19 dc19 pm19 an19 cd19 ct19), sl19⟩) (c19 : PySem.W.codeIn K cd19 "line_of" = true) (k19 : PySem.W.keepIn K (.ref f19) = true)
    {f20 : Addr} {oc20 : Value} {od20 an20 : Option Addr} {sl20 : Array (Option Value)} {kV20 dc20 pm20 cd20 ct20 : Value}
    (a20 : PySem.W.nsIn K mainGlobals "can_step" = some (some (.ref f20))) (l20 : K.lookup f20 = some ⟨oc20, od20, .func (PySem.W.fnOf "can_step" "can_step" (defArgs (topS 39)) (defBody (topS 39)) (defScope (topS 39)) .none kV20 dc20 pm20 an20 cd20 ct20), sl20⟩) (c20 : PySem.W.codeIn K cd20 "can_step" = true) (k20 : PySem.W.keepIn K (.ref f20) = true)
    {f21 : Addr} {oc21 : Value} {od21 an21 : Option Addr} {sl21 : Array (Option Value)} {kV21 dc21 pm21 cd21 ct21 : Value}
    (a21 : PySem.W.nsIn K mainGlobals "wants" = some (some (.ref f21))) (l21 : K.lookup f21 = some ⟨oc21, od21, .func (PySem.W.fnOf "wants" "wants" (defArgs (topS 40)) (defBody (topS 40)) (defScope (topS 40)) .none kV21 dc21 pm21 an21 cd21 ct21), sl21⟩) (c21 : PySem.W.codeIn K cd21 "wants" = true) (k21 : PySem.W.keepIn K (.ref f21) = true)
    {f22 : Addr} {oc22 : Value} {od22 an22 : Option Addr} {sl22 : Array (Option Value)} {kV22 dc22 pm22 cd22 ct22 : Value}
    (a22 : PySem.W.nsIn K mainGlobals "lent_ranks" = some (some (.ref f22))) (l22 : K.lookup f22 = some ⟨oc22, od22, .func (PySem.W.fnOf "lent_ranks" "lent_ranks" (defArgs (topS 41)) (defBody (topS 41)) (defScope (topS 41)) .none kV22 dc22 pm22 an22 cd22 ct22), sl22⟩) (c22 : PySem.W.codeIn K cd22 "lent_ranks" = true) (k22 : PySem.W.keepIn K (.ref f22) = true)
    {f23 : Addr} {oc23 : Value} {od23 an23 : Option Addr} {sl23 : Array (Option Value)} {kV23 dc23 pm23 cd23 ct23 : Value}
    (a23 : PySem.W.nsIn K mainGlobals "programs_let" = some (some (.ref f23))) (l23 : K.lookup f23 = some ⟨oc23, od23, .func (PySem.W.fnOf "programs_let" "programs_let" (defArgs (topS 42)) (defBody (topS 42)) (defScope (topS 42)) .none kV23 dc23 pm23 an23 cd23 ct23), sl23⟩) (c23 : PySem.W.codeIn K cd23 "programs_let" = true) (k23 : PySem.W.keepIn K (.ref f23) = true)
    {f24 : Addr} {oc24 : Value} {od24 an24 : Option Addr} {sl24 : Array (Option Value)} {kV24 dc24 pm24 cd24 ct24 : Value}
    (a24 : PySem.W.nsIn K mainGlobals "steps_of" = some (some (.ref f24))) (l24 : K.lookup f24 = some ⟨oc24, od24, .func (PySem.W.fnOf "steps_of" "steps_of" (defArgs (topS 43)) (defBody (topS 43)) (defScope (topS 43)) .none kV24 dc24 pm24 an24 cd24 ct24), sl24⟩) (c24 : PySem.W.codeIn K cd24 "steps_of" = true) (k24 : PySem.W.keepIn K (.ref f24) = true)
    {f25 : Addr} {oc25 : Value} {od25 an25 : Option Addr} {sl25 : Array (Option Value)} {kV25 dc25 pm25 cd25 ct25 : Value}
    (a25 : PySem.W.nsIn K mainGlobals "after_line" = some (some (.ref f25))) (l25 : K.lookup f25 = some ⟨oc25, od25, .func (PySem.W.fnOf "after_line" "after_line" (defArgs (topS 44)) (defBody (topS 44)) (defScope (topS 44)) .none kV25 dc25 pm25 an25 cd25 ct25), sl25⟩) (c25 : PySem.W.codeIn K cd25 "after_line" = true) (k25 : PySem.W.keepIn K (.ref f25) = true)
    {f26 : Addr} {oc26 : Value} {od26 an26 : Option Addr} {sl26 : Array (Option Value)} {kV26 dc26 pm26 cd26 ct26 : Value}
    (a26 : PySem.W.nsIn K mainGlobals "after_more" = some (some (.ref f26))) (l26 : K.lookup f26 = some ⟨oc26, od26, .func (PySem.W.fnOf "after_more" "after_more" (defArgs (topS 45)) (defBody (topS 45)) (defScope (topS 45)) .none kV26 dc26 pm26 an26 cd26 ct26), sl26⟩) (c26 : PySem.W.codeIn K cd26 "after_more" = true) (k26 : PySem.W.keepIn K (.ref f26) = true)
    {f27 : Addr} {oc27 : Value} {od27 an27 : Option Addr} {sl27 : Array (Option Value)} {kV27 dc27 pm27 cd27 ct27 : Value}
    (a27 : PySem.W.nsIn K mainGlobals "next_place" = some (some (.ref f27))) (l27 : K.lookup f27 = some ⟨oc27, od27, .func (PySem.W.fnOf "next_place" "next_place" (defArgs (topS 46)) (defBody (topS 46)) (defScope (topS 46)) .none kV27 dc27 pm27 an27 cd27 ct27), sl27⟩) (c27 : PySem.W.codeIn K cd27 "next_place" = true) (k27 : PySem.W.keepIn K (.ref f27) = true)
    {f28 : Addr} {oc28 : Value} {od28 an28 : Option Addr} {sl28 : Array (Option Value)} {kV28 dc28 pm28 cd28 ct28 : Value}
    (a28 : PySem.W.nsIn K mainGlobals "mended" = some (some (.ref f28))) (l28 : K.lookup f28 = some ⟨oc28, od28, .func (PySem.W.fnOf "mended" "mended" (defArgs (topS 47)) (defBody (topS 47)) (defScope (topS 47)) .none kV28 dc28 pm28 an28 cd28 ct28), sl28⟩) (c28 : PySem.W.codeIn K cd28 "mended" = true) (k28 : PySem.W.keepIn K (.ref f28) = true)
    {f29 : Addr} {oc29 : Value} {od29 an29 : Option Addr} {sl29 : Array (Option Value)} {kV29 dc29 pm29 cd29 ct29 : Value}
    (a29 : PySem.W.nsIn K mainGlobals "behind" = some (some (.ref f29))) (l29 : K.lookup f29 = some ⟨oc29, od29, .func (PySem.W.fnOf "behind" "behind" (defArgs (topS 48)) (defBody (topS 48)) (defScope (topS 48)) .none kV29 dc29 pm29 an29 cd29 ct29), sl29⟩) (c29 : PySem.W.codeIn K cd29 "behind" = true) (k29 : PySem.W.keepIn K (.ref f29) = true)
    {f30 : Addr} {oc30 : Value} {od30 an30 : Option Addr} {sl30 : Array (Option Value)} {kV30 dc30 pm30 cd30 ct30 : Value}
    (a30 : PySem.W.nsIn K mainGlobals "is_step" = some (some (.ref f30))) (l30 : K.lookup f30 = some ⟨oc30, od30, .func (PySem.W.fnOf "is_step" "is_step" (defArgs (topS 49)) (defBody (topS 49)) (defScope (topS 49)) .none kV30 dc30 pm30 an30 cd30 ct30), sl30⟩) (c30 : PySem.W.codeIn K cd30 "is_step" = true) (k30 : PySem.W.keepIn K (.ref f30) = true)
    {f31 : Addr} {oc31 : Value} {od31 an31 : Option Addr} {sl31 : Array (Option Value)} {kV31 dc31 pm31 cd31 ct31 : Value}
    (a31 : PySem.W.nsIn K mainGlobals "stepped" = some (some (.ref f31))) (l31 : K.lookup f31 = some ⟨oc31, od31, .func (PySem.W.fnOf "stepped" "stepped" (defArgs (topS 50)) (defBody (topS 50)) (defScope (topS 50)) .none kV31 dc31 pm31 an31 cd31 ct31), sl31⟩) (c31 : PySem.W.codeIn K cd31 "stepped" = true) (k31 : PySem.W.keepIn K (.ref f31) = true)
    {f32 : Addr} {oc32 : Value} {od32 an32 : Option Addr} {sl32 : Array (Option Value)} {kV32 dc32 pm32 cd32 ct32 : Value}
    (a32 : PySem.W.nsIn K mainGlobals "why" = some (some (.ref f32))) (l32 : K.lookup f32 = some ⟨oc32, od32, .func (PySem.W.fnOf "why" "why" (defArgs (topS 52)) (defBody (topS 52)) (defScope (topS 52)) .none kV32 dc32 pm32 an32 cd32 ct32), sl32⟩) (c32 : PySem.W.codeIn K cd32 "why" = true) (k32 : PySem.W.keepIn K (.ref f32) = true)
    {f33 : Addr} {oc33 : Value} {od33 an33 : Option Addr} {sl33 : Array (Option Value)} {kV33 dc33 pm33 cd33 ct33 : Value}
    (a33 : PySem.W.nsIn K mainGlobals "waiting" = some (some (.ref f33))) (l33 : K.lookup f33 = some ⟨oc33, od33, .func (PySem.W.fnOf "waiting" "waiting" (defArgs (topS 53)) (defBody (topS 53)) (defScope (topS 53)) .none kV33 dc33 pm33 an33 cd33 ct33), sl33⟩) (c33 : PySem.W.codeIn K cd33 "waiting" = true) (k33 : PySem.W.keepIn K (.ref f33) = true)
    {f34 : Addr} {oc34 : Value} {od34 an34 : Option Addr} {sl34 : Array (Option Value)} {kV34 dc34 pm34 cd34 ct34 : Value}
    (a34 : PySem.W.nsIn K mainGlobals "_law_draws" = some (some (.ref f34))) (l34 : K.lookup f34 = some ⟨oc34, od34, .func (PySem.W.fnOf "_law_draws" "_law_draws" (defArgs (topS 55)) (defBody (topS 55)) (defScope (topS 55)) .none kV34 dc34 pm34 an34 cd34 ct34), sl34⟩) (c34 : PySem.W.codeIn K cd34 "_law_draws" = true) (k34 : PySem.W.keepIn K (.ref f34) = true)
    {f35 : Addr} {oc35 : Value} {od35 an35 : Option Addr} {sl35 : Array (Option Value)} {kV35 dc35 pm35 cd35 ct35 : Value}
    (a35 : PySem.W.nsIn K mainGlobals "_law_pick" = some (some (.ref f35))) (l35 : K.lookup f35 = some ⟨oc35, od35, .func (PySem.W.fnOf "_law_pick" "_law_pick" (defArgs (topS 56)) (defBody (topS 56)) (defScope (topS 56)) .none kV35 dc35 pm35 an35 cd35 ct35), sl35⟩) (c35 : PySem.W.codeIn K cd35 "_law_pick" = true) (k35 : PySem.W.keepIn K (.ref f35) = true)
    {f36 : Addr} {oc36 : Value} {od36 an36 : Option Addr} {sl36 : Array (Option Value)} {kV36 dc36 pm36 cd36 ct36 : Value}
    (a36 : PySem.W.nsIn K mainGlobals "_law_names" = some (some (.ref f36))) (l36 : K.lookup f36 = some ⟨oc36, od36, .func (PySem.W.fnOf "_law_names" "_law_names" (defArgs (topS 57)) (defBody (topS 57)) (defScope (topS 57)) .none kV36 dc36 pm36 an36 cd36 ct36), sl36⟩) (c36 : PySem.W.codeIn K cd36 "_law_names" = true) (k36 : PySem.W.keepIn K (.ref f36) = true)
    {f37 : Addr} {oc37 : Value} {od37 an37 : Option Addr} {sl37 : Array (Option Value)} {kV37 dc37 pm37 cd37 ct37 : Value}
    (a37 : PySem.W.nsIn K mainGlobals "_law_kind" = some (some (.ref f37))) (l37 : K.lookup f37 = some ⟨oc37, od37, .func (PySem.W.fnOf "_law_kind" "_law_kind" (defArgs (topS 58)) (defBody (topS 58)) (defScope (topS 58)) .none kV37 dc37 pm37 an37 cd37 ct37), sl37⟩) (c37 : PySem.W.codeIn K cd37 "_law_kind" = true) (k37 : PySem.W.keepIn K (.ref f37) = true)
    {f38 : Addr} {oc38 : Value} {od38 an38 : Option Addr} {sl38 : Array (Option Value)} {kV38 dc38 pm38 cd38 ct38 : Value}
    (a38 : PySem.W.nsIn K mainGlobals "_law_line" = some (some (.ref f38))) (l38 : K.lookup f38 = some ⟨oc38, od38, .func (PySem.W.fnOf "_law_line" "_law_line" (defArgs (topS 59)) (defBody (topS 59)) (defScope (topS 59)) .none kV38 dc38 pm38 an38 cd38 ct38), sl38⟩) (c38 : PySem.W.codeIn K cd38 "_law_line" = true) (k38 : PySem.W.keepIn K (.ref f38) = true)
    {f39 : Addr} {oc39 : Value} {od39 an39 : Option Addr} {sl39 : Array (Option Value)} {kV39 dc39 pm39 cd39 ct39 : Value}
    (a39 : PySem.W.nsIn K mainGlobals "_law_house" = some (some (.ref f39))) (l39 : K.lookup f39 = some ⟨oc39, od39, .func (PySem.W.fnOf "_law_house" "_law_house" (defArgs (topS 60)) (defBody (topS 60)) (defScope (topS 60)) .none kV39 dc39 pm39 an39 cd39 ct39), sl39⟩) (c39 : PySem.W.codeIn K cd39 "_law_house" = true) (k39 : PySem.W.keepIn K (.ref f39) = true)
    {f40 : Addr} {oc40 : Value} {od40 an40 : Option Addr} {sl40 : Array (Option Value)} {kV40 dc40 pm40 cd40 ct40 : Value}
    (a40 : PySem.W.nsIn K mainGlobals "_law_made" = some (some (.ref f40))) (l40 : K.lookup f40 = some ⟨oc40, od40, .func (PySem.W.fnOf "_law_made" "_law_made" (defArgs (topS 61)) (defBody (topS 61)) (defScope (topS 61)) .none kV40 dc40 pm40 an40 cd40 ct40), sl40⟩) (c40 : PySem.W.codeIn K cd40 "_law_made" = true) (k40 : PySem.W.keepIn K (.ref f40) = true)
    {f41 : Addr} {oc41 : Value} {od41 an41 : Option Addr} {sl41 : Array (Option Value)} {kV41 dc41 pm41 cd41 ct41 : Value}
    (a41 : PySem.W.nsIn K mainGlobals "law" = some (some (.ref f41))) (l41 : K.lookup f41 = some ⟨oc41, od41, .func (PySem.W.fnOf "law" "law" (defArgs (topS 62)) (defBody (topS 62)) (defScope (topS 62)) .none kV41 dc41 pm41 an41 cd41 ct41), sl41⟩) (c41 : PySem.W.codeIn K cd41 "law" = true) (k41 : PySem.W.keepIn K (.ref f41) = true)
    {t0 : Tok} (g0 : PySem.W.nsIn K mainGlobals "VALUES" = some (some (Value.int 4 t0)))
    {t1 : Tok} (g1 : PySem.W.nsIn K mainGlobals "MOST_PROGRAMS" = some (some (Value.int 3 t1)))
    {t2 : Tok} (g2 : PySem.W.nsIn K mainGlobals "MOST_LINES" = some (some (Value.int 10 t2)))
    {t3 : Tok} (g3 : PySem.W.nsIn K mainGlobals "MOST_OF_KIND" = some (some (Value.int 2 t3)))
    {t4_0 t4_1 t4_2 t4_3 : Tok} {r4 : Addr} {dd4 : Option Addr} {rn4 : Nat} {rs4 : Array (Option Value)} (g4 : PySem.W.nsIn K mainGlobals "PLAIN" = some (some (.ref r4))) (gl4 : K.lookup r4 = some ⟨.type "tuple", dd4, .seq [Value.str "mark" t4_0, Value.str "keep" t4_1, Value.str "say" t4_2, Value.str "stop" t4_3].toArray rn4, rs4⟩)
    {t5_0 t5_1 : Tok} {r5 : Addr} {dd5 : Option Addr} {rn5 : Nat} {rs5 : Array (Option Value)} (g5 : PySem.W.nsIn K mainGlobals "NUMBERED" = some (some (.ref r5))) (gl5 : K.lookup r5 = some ⟨.type "tuple", dd5, .seq [Value.str "set" t5_0, Value.str "add" t5_1].toArray rn5, rs5⟩)
    {t6_0 t6_1 : Tok} {r6 : Addr} {dd6 : Option Addr} {rn6 : Nat} {rs6 : Array (Option Value)} (g6 : PySem.W.nsIn K mainGlobals "JUMPS" = some (some (.ref r6))) (gl6 : K.lookup r6 = some ⟨.type "tuple", dd6, .seq [Value.str "zero" t6_0, Value.str "go" t6_1].toArray rn6, rs6⟩)
    {t7 : Tok} (g7 : PySem.W.nsIn K mainGlobals "HAND" = some (some (Value.str "hand" t7)))
    {t8_0 t8_1 t8_2 t8_3 : Tok} {r8 : Addr} {dd8 : Option Addr} {rn8 : Nat} {rs8 : Array (Option Value)} (g8 : PySem.W.nsIn K mainGlobals "ORDERS" = some (some (.ref r8))) (gl8 : K.lookup r8 = some ⟨.type "tuple", dd8, .seq [Value.str "any" t8_0, Value.str "ring" t8_1, Value.str "rank" t8_2, Value.str "lent" t8_3].toArray rn8, rs8⟩)
    {t9_0 t9_1 : Tok} {r9 : Addr} {dd9 : Option Addr} {rn9 : Nat} {rs9 : Array (Option Value)} (g9 : PySem.W.nsIn K mainGlobals "MARKS" = some (some (.ref r9))) (gl9 : K.lookup r9 = some ⟨.type "tuple", dd9, .seq [Value.str "own" t9_0, Value.str "all" t9_1].toArray rn9, rs9⟩)
    {t10 : Tok} (g10 : PySem.W.nsIn K mainGlobals "CUT" = some (some (Value.str "cut" t10)))
    {t11 : Tok} (g11 : PySem.W.nsIn K mainGlobals "MARK" = some (some (Value.str "mark" t11)))
    {t12 : Tok} (g12 : PySem.W.nsIn K mainGlobals "NOTE" = some (some (Value.str "note" t12)))
    {t13_0 t13_1 t13_2 t13_3 t13_4 t13_5 t13_6 t13_7 t13_8 t13_9 t13_10 t13_11 : Tok} {r13 : Addr} {dd13 : Option Addr} {rn13 : Nat} {rs13 : Array (Option Value)} (g13 : PySem.W.nsIn K mainGlobals "FIELDS" = some (some (.ref r13))) (gl13 : K.lookup r13 = some ⟨.type "tuple", dd13, .seq [Value.str "places" t13_0, Value.str "numbers" t13_1, Value.str "cells" t13_2, Value.str "owners" t13_3, Value.str "pipes" t13_4, Value.str "signals" t13_5, Value.str "blocks" t13_6, Value.str "disk" t13_7, Value.str "buffer" t13_8, Value.str "log" t13_9, Value.str "rights" t13_10, Value.str "turn" t13_11].toArray rn13, rs13⟩)
    {y0_0 w0_0 y0_1 w0_1 y0_2 w0_2 y0_3 w0_3 y0_4 w0_4 y0_5 w0_5 y0_6 w0_6 y0_7 w0_7 y0_8 w0_8 y0_9 w0_9 : Tok} {q0 : Addr} {qn0 : Nat} (qa0 : PySem.W.nsIn K mainGlobals "KINDS" = some (some (.ref q0))) (ql0 : K.lookup q0 = some ⟨.type "dict", none, .dict [⟨PyData.keyHash w.params "get", .str "get" y0_0, .str "c" w0_0⟩, ⟨PyData.keyHash w.params "put", .str "put" y0_1, .str "c" w0_1⟩, ⟨PyData.keyHash w.params "take", .str "take" y0_2, .str "k" w0_2⟩, ⟨PyData.keyHash w.params "free", .str "free" y0_3, .str "k" w0_3⟩, ⟨PyData.keyHash w.params "send", .str "send" y0_4, .str "p" w0_4⟩, ⟨PyData.keyHash w.params "hear", .str "hear" y0_5, .str "p" w0_5⟩, ⟨PyData.keyHash w.params "wake", .str "wake" y0_6, .str "s" w0_6⟩, ⟨PyData.keyHash w.params "wait", .str "wait" y0_7, .str "s" w0_7⟩, ⟨PyData.keyHash w.params "read", .str "read" y0_8, .str "f" w0_8⟩, ⟨PyData.keyHash w.params "note", .str "note" y0_9, .str "f" w0_9⟩].toArray qn0, #[]⟩) (qs0 : (q0 == sysModules) = false)
    {X0 : Addr} (xa0 : PySem.W.nsIn K mainGlobals "BadThings" = some (some (.ref X0))) (xb0 : PySem.W.subIn K (.ref X0) (.type "BaseException") = some true) (xt0 : PySem.W.typeIn K (.ref X0) = some (.type "type")) (xd0 : PySem.W.hasDictIn K X0 = true)
    {X1 : Addr} (xa1 : PySem.W.nsIn K mainGlobals "BadRule" = some (some (.ref X1))) (xb1 : PySem.W.subIn K (.ref X1) (.type "BaseException") = some true) (xt1 : PySem.W.typeIn K (.ref X1) = some (.type "type")) (xd1 : PySem.W.hasDictIn K X1 = true)
    {X2 : Addr} (xa2 : PySem.W.nsIn K mainGlobals "BadStep" = some (some (.ref X2))) (xb2 : PySem.W.subIn K (.ref X2) (.type "BaseException") = some true) (xt2 : PySem.W.typeIn K (.ref X2) = some (.type "type")) (xd2 : PySem.W.hasDictIn K X2 = true)
    (xk0 : PySem.W.keepIn K (.ref X0) = true) (xx0 : PySem.W.excIn K X0 [.type "ValueError", .type "Exception", .type "BaseException", .type "object"] "ValueError.__new__" = true)
    (xk1 : PySem.W.keepIn K (.ref X1) = true) (xx1 : PySem.W.excIn K X1 [.type "ValueError", .type "Exception", .type "BaseException", .type "object"] "ValueError.__new__" = true)
    (xk2 : PySem.W.keepIn K (.ref X2) = true) (xx2 : PySem.W.excIn K X2 [.type "ValueError", .type "Exception", .type "BaseException", .type "object"] "ValueError.__new__" = true)
    (n0 : PySem.W.findIn K (.ref C0) "rows" = some none)
    (n1 : PySem.W.findIn K (.ref C0) "kinds" = some none)
    (n2 : PySem.W.findIn K (.ref C0) "given" = some none)
    (n3 : PySem.W.findIn K (.ref C0) "way" = some none)
    (z0 : PySem.W.nsIn K mainGlobals "len" = some none)
    (z1 : PySem.W.nsIn K mainGlobals "int" = some none)
    (z2 : PySem.W.nsIn K mainGlobals "tuple" = some none)
    (z3 : PySem.W.nsIn K mainGlobals "list" = some none)
    (z4 : PySem.W.nsIn K mainGlobals "max" = some none)
    (z5 : PySem.W.nsIn K mainGlobals "min" = some none)
    (z6 : PySem.W.nsIn K mainGlobals "isinstance" = some none)
    (z7 : PySem.W.nsIn K mainGlobals "bool" = some none)
    (z8 : PySem.W.nsIn K mainGlobals "str" = some none)
    (z9 : PySem.W.nsIn K mainGlobals "dict" = some none)
    (z10 : PySem.W.nsIn K mainGlobals "range" = some none)
    (z11 : PySem.W.nsIn K mainGlobals "enumerate" = some none)
    (z12 : PySem.W.nsIn K mainGlobals "zip" = some none)
    (z13 : PySem.W.nsIn K mainGlobals "sorted" = some none)
    (z14 : PySem.W.nsIn K mainGlobals "all" = some none)
    (z15 : PySem.W.nsIn K mainGlobals "any" = some none)
    (z16 : PySem.W.nsIn K mainGlobals "sum" = some none)
    (z17 : PySem.W.nsIn K mainGlobals "set" = some none) :
    ∃ fd : FuncData, (∀ (s : Shared) (v : Value), BindsTo s fd ⟨[v], []⟩ [("_law_script", v)]) ∧ ∀ base : Heap, K.In base → base.Ns mainGlobals mg → FnOk l.prog w K mg base (L2.CX l.prog w) 28 fa fd ["_law_script"] (spL tb K l.prog w ["_law_script"] 14 41) := by
  have e := hfa.symm.trans (PySem.W.mg_of X G a41)
  cases e
  have A : TbAt tb K mg l.prog w := ⟨fns_at (fs := tFns) _ (List.forall_mem_cons.2 ⟨fnAt_mk X G (mt := mt_0) (st := topS 19) a0 l0 c0 k0 rfl sc_0 c_0 (fun _ _ _ _ _ _ us hl => match us, hl with | [_, _, _], _ => rfl),
    (List.forall_mem_cons.2 ⟨fnAt_mk X G (mt := mt_1) (st := topS 20) a1 l1 c1 k1 rfl sc_1 c_1 (fun _ _ _ _ _ _ us hl => match us, hl with | [_], _ => rfl),
    (List.forall_mem_cons.2 ⟨fnAt_mk X G (mt := mt_2) (st := topS 21) a2 l2 c2 k2 rfl sc_2 c_2 (fun _ _ _ _ _ _ us hl => match us, hl with | [_], _ => rfl),
    (List.forall_mem_cons.2 ⟨fnAt_mk X G (mt := mt_3) (st := topS 22) a3 l3 c3 k3 rfl sc_3 c_3 (fun _ _ _ _ _ _ us hl => match us, hl with | [_, _, _, _], _ => rfl),
    (List.forall_mem_cons.2 ⟨fnAt_mk X G (mt := mt_4) (st := topS 23) a4 l4 c4 k4 rfl sc_4 c_4 (fun _ _ _ _ _ _ us hl => match us, hl with | [_, _], _ => rfl),
    (List.forall_mem_cons.2 ⟨fnAt_mk X G (mt := mt_5) (st := topS 24) a5 l5 c5 k5 rfl sc_5 c_5 (fun _ _ _ _ _ _ us hl => match us, hl with | [_, _, _], _ => rfl),
    (List.forall_mem_cons.2 ⟨fnAt_mk X G (mt := mt_6) (st := topS 25) a6 l6 c6 k6 rfl sc_6 c_6 (fun _ _ _ _ _ _ us hl => match us, hl with | [_], _ => rfl),
    (List.forall_mem_cons.2 ⟨fnAt_mk X G (mt := mt_7) (st := topS 26) a7 l7 c7 k7 rfl sc_7 c_7 (fun _ _ _ _ _ _ us hl => match us, hl with | [_], _ => rfl),
    (List.forall_mem_cons.2 ⟨fnAt_mkM (q := "House.__init__") (mt := mt_8) (st := topC 32 0) l8 c8 k8 ⟨C0, PySem.W.mg_of X G ca0, ⟨cm0, a8, i8, ck0⟩⟩ sc_8 c_8 (fun _ _ _ _ _ _ us hl => match us, hl with | [_, _, _, _, _], _ => rfl),
    (List.forall_mem_cons.2 ⟨fnAt_mk X G (mt := mt_0) (st := topS 19) a0 l0 c0 k0 rfl sc_0 c_0 (fun _ _ _ _ _ _ us hl => match us, hl with | [_, _, _], _ => rfl),
    (List.forall_mem_cons.2 ⟨fnAt_mk X G (mt := mt_0) (st := topS 19) a0 l0 c0 k0 rfl sc_0 c_0 (fun _ _ _ _ _ _ us hl => match us, hl with | [_, _, _], _ => rfl),
    (List.forall_mem_cons.2 ⟨fnAt_mk X G (mt := mt_0) (st := topS 19) a0 l0 c0 k0 rfl sc_0 c_0 (fun _ _ _ _ _ _ us hl => match us, hl with | [_, _, _], _ => rfl),
    (List.forall_mem_cons.2 ⟨fnAt_mk X G (mt := mt_0) (st := topS 19) a0 l0 c0 k0 rfl sc_0 c_0 (fun _ _ _ _ _ _ us hl => match us, hl with | [_, _, _], _ => rfl),
    (List.forall_mem_cons.2 ⟨fnAt_mk X G (mt := mt_0) (st := topS 19) a0 l0 c0 k0 rfl sc_0 c_0 (fun _ _ _ _ _ _ us hl => match us, hl with | [_, _, _], _ => rfl),
    (List.forall_mem_cons.2 ⟨fnAt_mk X G (mt := mt_14) (st := topS 33) a14 l14 c14 k14 rfl sc_14 c_14 (fun _ _ _ _ _ _ us hl => match us, hl with | [_], _ => rfl),
    (List.forall_mem_cons.2 ⟨fnAt_mk X G (mt := mt_15) (st := topS 34) a15 l15 c15 k15 rfl sc_15 c_15 (fun _ _ _ _ _ _ us hl => match us, hl with | [_], _ => rfl),
    (List.forall_mem_cons.2 ⟨fnAt_mk X G (mt := mt_16) (st := topS 35) a16 l16 c16 k16 rfl sc_16 c_16 (fun _ _ _ _ _ _ us hl => match us, hl with | [_, _], _ => rfl),
    (List.forall_mem_cons.2 ⟨fnAt_mk X G (mt := mt_17) (st := topS 36) a17 l17 c17 k17 rfl sc_17 c_17 (fun _ _ _ _ _ _ us hl => match us, hl with | [_], _ => rfl),
    (List.forall_mem_cons.2 ⟨fnAt_mk X G (mt := mt_18) (st := topS 37) a18 l18 c18 k18 rfl sc_18 c_18 (fun _ _ _ _ _ _ us hl => match us, hl with | [_, _, _], _ => rfl),
    (List.forall_mem_cons.2 ⟨fnAt_mk X G (mt := mt_19) (st := topS 38) a19 l19 c19 k19 rfl sc_19 c_19 (fun _ _ _ _ _ _ us hl => match us, hl with | [_, _, _], _ => rfl),
    (List.forall_mem_cons.2 ⟨fnAt_mk X G (mt := mt_20) (st := topS 39) a20 l20 c20 k20 rfl sc_20 c_20 (fun _ _ _ _ _ _ us hl => match us, hl with | [_, _, _], _ => rfl),
    (List.forall_mem_cons.2 ⟨fnAt_mk X G (mt := mt_21) (st := topS 40) a21 l21 c21 k21 rfl sc_21 c_21 (fun _ _ _ _ _ _ us hl => match us, hl with | [_, _, _], _ => rfl),
    (List.forall_mem_cons.2 ⟨fnAt_mk X G (mt := mt_22) (st := topS 41) a22 l22 c22 k22 rfl sc_22 c_22 (fun _ _ _ _ _ _ us hl => match us, hl with | [_, _], _ => rfl),
    (List.forall_mem_cons.2 ⟨fnAt_mk X G (mt := mt_23) (st := topS 42) a23 l23 c23 k23 rfl sc_23 c_23 (fun _ _ _ _ _ _ us hl => match us, hl with | [_, _], _ => rfl),
    (List.forall_mem_cons.2 ⟨fnAt_mk X G (mt := mt_24) (st := topS 43) a24 l24 c24 k24 rfl sc_24 c_24 (fun _ _ _ _ _ _ us hl => match us, hl with | [_, _], _ => rfl),
    (List.forall_mem_cons.2 ⟨fnAt_mk X G (mt := mt_25) (st := topS 44) a25 l25 c25 k25 rfl sc_25 c_25 (fun _ _ _ _ _ _ us hl => match us, hl with | [_, _, _], _ => rfl),
    (List.forall_mem_cons.2 ⟨fnAt_mk X G (mt := mt_26) (st := topS 45) a26 l26 c26 k26 rfl sc_26 c_26 (fun _ _ _ _ _ _ us hl => match us, hl with | [_, _, _], _ => rfl),
    (List.forall_mem_cons.2 ⟨fnAt_mk X G (mt := mt_27) (st := topS 46) a27 l27 c27 k27 rfl sc_27 c_27 (fun _ _ _ _ _ _ us hl => match us, hl with | [_, _, _, _], _ => rfl),
    (List.forall_mem_cons.2 ⟨fnAt_mk X G (mt := mt_28) (st := topS 47) a28 l28 c28 k28 rfl sc_28 c_28 (fun _ _ _ _ _ _ us hl => match us, hl with | [_, _, _], _ => rfl),
    (List.forall_mem_cons.2 ⟨fnAt_mk X G (mt := mt_29) (st := topS 48) a29 l29 c29 k29 rfl sc_29 c_29 (fun _ _ _ _ _ _ us hl => match us, hl with | [_, _, _], _ => rfl),
    (List.forall_mem_cons.2 ⟨fnAt_mk X G (mt := mt_30) (st := topS 49) a30 l30 c30 k30 rfl sc_30 c_30 (fun _ _ _ _ _ _ us hl => match us, hl with | [_, _, _], _ => rfl),
    (List.forall_mem_cons.2 ⟨fnAt_mk X G (mt := mt_31) (st := topS 50) a31 l31 c31 k31 rfl sc_31 c_31 (fun _ _ _ _ _ _ us hl => match us, hl with | [_, _, _], _ => rfl),
    (List.forall_mem_cons.2 ⟨fnAt_mk X G (mt := mt_32) (st := topS 52) a32 l32 c32 k32 rfl sc_32 c_32 (fun _ _ _ _ _ _ us hl => match us, hl with | [_, _, _], _ => rfl),
    (List.forall_mem_cons.2 ⟨fnAt_mk X G (mt := mt_33) (st := topS 53) a33 l33 c33 k33 rfl sc_33 c_33 (fun _ _ _ _ _ _ us hl => match us, hl with | [_, _], _ => rfl),
    (List.forall_mem_cons.2 ⟨fnAt_mk X G (mt := mt_34) (st := topS 55) a34 l34 c34 k34 rfl sc_34 c_34 (fun _ _ _ _ _ _ us hl => match us, hl with | [_], _ => rfl),
    (List.forall_mem_cons.2 ⟨fnAt_mk X G (mt := mt_35) (st := topS 56) a35 l35 c35 k35 rfl sc_35 c_35 (fun _ _ _ _ _ _ us hl => match us, hl with | [_, _], _ => rfl),
    (List.forall_mem_cons.2 ⟨fnAt_mk X G (mt := mt_36) (st := topS 57) a36 l36 c36 k36 rfl sc_36 c_36 (fun _ _ _ _ _ _ us hl => match us, hl with | [_], _ => rfl),
    (List.forall_mem_cons.2 ⟨fnAt_mk X G (mt := mt_37) (st := topS 58) a37 l37 c37 k37 rfl sc_37 c_37 (fun _ _ _ _ _ _ us hl => match us, hl with | [_], _ => rfl),
    (List.forall_mem_cons.2 ⟨fnAt_mk X G (mt := mt_38) (st := topS 59) a38 l38 c38 k38 rfl sc_38 c_38 (fun _ _ _ _ _ _ us hl => match us, hl with | [_, _, _, _, _], _ => rfl),
    (List.forall_mem_cons.2 ⟨fnAt_mk X G (mt := mt_39) (st := topS 60) a39 l39 c39 k39 rfl sc_39 c_39 (fun _ _ _ _ _ _ us hl => match us, hl with | [_, _], _ => rfl),
    (List.forall_mem_cons.2 ⟨fnAt_mk X G (mt := mt_40) (st := topS 61) a40 l40 c40 k40 rfl sc_40 c_40 (fun _ _ _ _ _ _ us hl => match us, hl with | [_], _ => rfl),
    (List.forall_mem_cons.2 ⟨fnAt_mk X G (mt := mt_41) (st := topS 62) a41 l41 c41 k41 rfl sc_41 c_41 (fun _ _ _ _ _ _ us hl => match us, hl with | [_], _ => rfl),
    (fun _ h => by cases h)⟩)⟩)⟩)⟩)⟩)⟩)⟩)⟩)⟩)⟩)⟩)⟩)⟩)⟩)⟩)⟩)⟩)⟩)⟩)⟩)⟩)⟩)⟩)⟩)⟩)⟩)⟩)⟩)⟩)⟩)⟩)⟩)⟩)⟩)⟩)⟩)⟩)⟩)⟩)⟩)⟩)⟩),
    con_at (cs := tCon) (List.forall_mem_cons.2 ⟨con_mk X G g0 (v := .int 4) ⟨_, rfl⟩ fun W => rfl,
    (List.forall_mem_cons.2 ⟨con_mk X G g1 (v := .int 3) ⟨_, rfl⟩ fun W => rfl,
    (List.forall_mem_cons.2 ⟨con_mk X G g2 (v := .int 10) ⟨_, rfl⟩ fun W => rfl,
    (List.forall_mem_cons.2 ⟨con_mk X G g3 (v := .int 2) ⟨_, rfl⟩ fun W => rfl,
    (List.forall_mem_cons.2 ⟨con_mk X G g4 (v := .ref r4) rfl (krel_tup gl4 (Nat.le_of_ble_eq_true rfl) (vs := [.str "mark", .str "keep", .str "say", .str "stop"]) (.cons ⟨_, rfl⟩ (.cons ⟨_, rfl⟩ (.cons ⟨_, rfl⟩ (.cons ⟨_, rfl⟩ .nil)))) fun W => ⟨_, _, rfl, rfl, ⟨_, _, rfl, rfl, ⟨_, _, rfl, rfl, ⟨_, _, rfl, rfl, rfl⟩⟩⟩⟩),
    (List.forall_mem_cons.2 ⟨con_mk X G g5 (v := .ref r5) rfl (krel_tup gl5 (Nat.le_of_ble_eq_true rfl) (vs := [.str "set", .str "add"]) (.cons ⟨_, rfl⟩ (.cons ⟨_, rfl⟩ .nil)) fun W => ⟨_, _, rfl, rfl, ⟨_, _, rfl, rfl, rfl⟩⟩),
    (List.forall_mem_cons.2 ⟨con_mk X G g6 (v := .ref r6) rfl (krel_tup gl6 (Nat.le_of_ble_eq_true rfl) (vs := [.str "zero", .str "go"]) (.cons ⟨_, rfl⟩ (.cons ⟨_, rfl⟩ .nil)) fun W => ⟨_, _, rfl, rfl, ⟨_, _, rfl, rfl, rfl⟩⟩),
    (List.forall_mem_cons.2 ⟨con_mk X G g7 (v := .str "hand") ⟨_, rfl⟩ fun W => rfl,
    (List.forall_mem_cons.2 ⟨con_mk X G g8 (v := .ref r8) rfl (krel_tup gl8 (Nat.le_of_ble_eq_true rfl) (vs := [.str "any", .str "ring", .str "rank", .str "lent"]) (.cons ⟨_, rfl⟩ (.cons ⟨_, rfl⟩ (.cons ⟨_, rfl⟩ (.cons ⟨_, rfl⟩ .nil)))) fun W => ⟨_, _, rfl, rfl, ⟨_, _, rfl, rfl, ⟨_, _, rfl, rfl, ⟨_, _, rfl, rfl, rfl⟩⟩⟩⟩),
    (List.forall_mem_cons.2 ⟨con_mk X G g9 (v := .ref r9) rfl (krel_tup gl9 (Nat.le_of_ble_eq_true rfl) (vs := [.str "own", .str "all"]) (.cons ⟨_, rfl⟩ (.cons ⟨_, rfl⟩ .nil)) fun W => ⟨_, _, rfl, rfl, ⟨_, _, rfl, rfl, rfl⟩⟩),
    (List.forall_mem_cons.2 ⟨con_mk X G g10 (v := .str "cut") ⟨_, rfl⟩ fun W => rfl,
    (List.forall_mem_cons.2 ⟨con_mk X G g11 (v := .str "mark") ⟨_, rfl⟩ fun W => rfl,
    (List.forall_mem_cons.2 ⟨con_mk X G g12 (v := .str "note") ⟨_, rfl⟩ fun W => rfl,
    (List.forall_mem_cons.2 ⟨con_mk X G g13 (v := .ref r13) rfl (krel_tup gl13 (Nat.le_of_ble_eq_true rfl) (vs := [.str "places", .str "numbers", .str "cells", .str "owners", .str "pipes", .str "signals", .str "blocks", .str "disk", .str "buffer", .str "log", .str "rights", .str "turn"]) (.cons ⟨_, rfl⟩ (.cons ⟨_, rfl⟩ (.cons ⟨_, rfl⟩ (.cons ⟨_, rfl⟩ (.cons ⟨_, rfl⟩ (.cons ⟨_, rfl⟩ (.cons ⟨_, rfl⟩ (.cons ⟨_, rfl⟩ (.cons ⟨_, rfl⟩ (.cons ⟨_, rfl⟩ (.cons ⟨_, rfl⟩ (.cons ⟨_, rfl⟩ .nil)))))))))))) fun W => ⟨_, _, rfl, rfl, ⟨_, _, rfl, rfl, ⟨_, _, rfl, rfl, ⟨_, _, rfl, rfl, ⟨_, _, rfl, rfl, ⟨_, _, rfl, rfl, ⟨_, _, rfl, rfl, ⟨_, _, rfl, rfl, ⟨_, _, rfl, rfl, ⟨_, _, rfl, rfl, ⟨_, _, rfl, rfl, ⟨_, _, rfl, rfl, rfl⟩⟩⟩⟩⟩⟩⟩⟩⟩⟩⟩⟩),
    (fun _ h => by cases h)⟩)⟩)⟩)⟩)⟩)⟩)⟩)⟩)⟩)⟩)⟩)⟩)⟩)⟩),
    (show ∀ x ∈ tBlt, mg x = none from (List.forall_mem_cons.2 ⟨PySem.W.mg_none_of X G z0,
    (List.forall_mem_cons.2 ⟨PySem.W.mg_none_of X G z1,
    (List.forall_mem_cons.2 ⟨PySem.W.mg_none_of X G z2,
    (List.forall_mem_cons.2 ⟨PySem.W.mg_none_of X G z3,
    (List.forall_mem_cons.2 ⟨PySem.W.mg_none_of X G z4,
    (List.forall_mem_cons.2 ⟨PySem.W.mg_none_of X G z5,
    (List.forall_mem_cons.2 ⟨PySem.W.mg_none_of X G z6,
    (List.forall_mem_cons.2 ⟨PySem.W.mg_none_of X G z7,
    (List.forall_mem_cons.2 ⟨PySem.W.mg_none_of X G z8,
    (List.forall_mem_cons.2 ⟨PySem.W.mg_none_of X G z9,
    (List.forall_mem_cons.2 ⟨PySem.W.mg_none_of X G z10,
    (List.forall_mem_cons.2 ⟨PySem.W.mg_none_of X G z11,
    (List.forall_mem_cons.2 ⟨PySem.W.mg_none_of X G z12,
    (List.forall_mem_cons.2 ⟨PySem.W.mg_none_of X G z13,
    (List.forall_mem_cons.2 ⟨PySem.W.mg_none_of X G z14,
    (List.forall_mem_cons.2 ⟨PySem.W.mg_none_of X G z15,
    (List.forall_mem_cons.2 ⟨PySem.W.mg_none_of X G z16,
    (List.forall_mem_cons.2 ⟨PySem.W.mg_none_of X G z17,
    (fun _ h => by cases h)⟩)⟩)⟩)⟩)⟩)⟩)⟩)⟩)⟩)⟩)⟩)⟩)⟩)⟩)⟩)⟩)⟩)⟩)), (show ∀ x ∈ tExs, ExCls K mg x from (List.forall_mem_cons.2 ⟨⟨X0, PySem.W.mg_of X G xa0, xk0, xx0, xb0, xt0⟩,
    (List.forall_mem_cons.2 ⟨⟨X1, PySem.W.mg_of X G xa1, xk1, xx1, xb1, xt1⟩,
    (List.forall_mem_cons.2 ⟨⟨X2, PySem.W.mg_of X G xa2, xk2, xx2, xb2, xt2⟩,
    (fun _ h => by cases h)⟩)⟩)⟩)), (show ∀ x ∈ tExm, ExMat K mg x from (fun _ h => by cases h)), (show ∀ x ∈ tFld, FldAt K mg x from (List.forall_mem_cons.2 ⟨⟨C0, PySem.W.mg_of X G ca0, ⟨cp0, ch0, co0, cs0⟩, n0⟩,
    (List.forall_mem_cons.2 ⟨⟨C0, PySem.W.mg_of X G ca0, ⟨cp0, ch0, co0, cs0⟩, n1⟩,
    (List.forall_mem_cons.2 ⟨⟨C0, PySem.W.mg_of X G ca0, ⟨cp0, ch0, co0, cs0⟩, n2⟩,
    (List.forall_mem_cons.2 ⟨⟨C0, PySem.W.mg_of X G ca0, ⟨cp0, ch0, co0, cs0⟩, n3⟩,
    (fun _ h => by cases h)⟩)⟩)⟩)⟩)), (show ∀ x ∈ tKds, KdAt K w mg x from (List.forall_mem_cons.2 ⟨kdAt_mk X G qa0 ql0 qs0 ⟨⟨_, _, rfl, rfl⟩, ⟨⟨_, _, rfl, rfl⟩, ⟨⟨_, _, rfl, rfl⟩, ⟨⟨_, _, rfl, rfl⟩, ⟨⟨_, _, rfl, rfl⟩, ⟨⟨_, _, rfl, rfl⟩, ⟨⟨_, _, rfl, rfl⟩, ⟨⟨_, _, rfl, rfl⟩, ⟨⟨_, _, rfl, rfl⟩, ⟨⟨_, _, rfl, rfl⟩, trivial⟩⟩⟩⟩⟩⟩⟩⟩⟩⟩ (.cons ⟨⟨_, rfl⟩, V.str "c", ⟨_, rfl⟩, rfl⟩ (.cons ⟨⟨_, rfl⟩, V.str "c", ⟨_, rfl⟩, rfl⟩ (.cons ⟨⟨_, rfl⟩, V.str "k", ⟨_, rfl⟩, rfl⟩ (.cons ⟨⟨_, rfl⟩, V.str "k", ⟨_, rfl⟩, rfl⟩ (.cons ⟨⟨_, rfl⟩, V.str "p", ⟨_, rfl⟩, rfl⟩ (.cons ⟨⟨_, rfl⟩, V.str "p", ⟨_, rfl⟩, rfl⟩ (.cons ⟨⟨_, rfl⟩, V.str "s", ⟨_, rfl⟩, rfl⟩ (.cons ⟨⟨_, rfl⟩, V.str "s", ⟨_, rfl⟩, rfl⟩ (.cons ⟨⟨_, rfl⟩, V.str "f", ⟨_, rfl⟩, rfl⟩ (.cons ⟨⟨_, rfl⟩, V.str "f", ⟨_, rfl⟩, rfl⟩ .nil)))))))))),
    (fun _ h => by cases h)⟩))⟩
  exact ⟨PySem.W.fnOf "law" "law" (defArgs (topS 62)) (defBody (topS 62)) (defScope (topS 62)) .none kV41 dc41 pm41 an41 cd41 ct41, fun s v => .of_eq rfl, fun base _ _ => FnOk.imp (all_ok A 14 41 ⟨"law", ["_law_script"], n_41, b_41, false, .glob⟩ rfl _ _ ⟨topS 62, "law", "law", mt_41, fun_mk l41 c41 k41, sc_41, c_41⟩) (fun _ _ _ _ q => q _)⟩
/-- the law's own run -/
def Run : Prop := ∀ ns : List Int, ns.length ≤ 63 → ∃ M', callF tb 14 41 [.lst (ns.map .int)] [] = .ok (.bl true) M'
end K76

set_option maxHeartbeats 4000000
namespace RI
open PySem L2
/-! ### data that may be compared -/
def D.fine (k : Nat) (d : D) : Bool := D.keyly d && (D.toP d).canLay0 && Nat.ble (D.toP d).depth k
def D.fines (k : Nat) (l : List D) : Bool := D.keylys l && PyData.canLayAll0 (D.toPs l) && Nat.ble (PyData.depthAll (D.toPs l)) k
mutual
theorem keyly_noObj : ∀ d : D, D.keyly d = true → D.noObj d = true
  | .non, _ => rfl
  | .bl _, _ => rfl
  | .int _, _ => rfl
  | .str _, _ => rfl
  | .obj _, h => by simp [D.keyly] at h
  | .lst _, h => by simp [D.keyly] at h
  | .exn _ _ _, h => by simp [D.keyly] at h
  | .ins _ _ _, h => by simp [D.keyly] at h
  | .tup l, h => by simp only [D.keyly] at h; simp only [D.noObj, keylys_noObj l h]
theorem keylys_noObj : ∀ l : List D, D.keylys l = true → D.noObjs l = true
  | [], _ => rfl
  | d :: l, h => by
    simp only [D.keylys, Bool.and_eq_true] at h
    simp only [D.noObjs, keyly_noObj d h.1, keylys_noObj l h.2, Bool.and_self]
end
@[simp] theorem fines_nil (k : Nat) : D.fines k [] = true := by
  simp [D.fines, D.keylys, D.toPs, PyData.canLayAll0, PyData.depthAll]
theorem ble_max (a b k : Nat) : Nat.ble (max a b) k = (Nat.ble a k && Nat.ble b k) := by
  rw [Bool.eq_iff_iff, Bool.and_eq_true]
  simp only [Nat.ble_eq]
  omega
@[simp] theorem fines_cons (k : Nat) (d : D) (l : List D) : D.fines k (d :: l) = (D.fine k d && D.fines k l) := by
  simp only [D.fines, D.fine, D.keylys, D.toPs, PyData.canLayAll0, PyData.depthAll, ble_max]
  cases D.keyly d <;> cases D.keylys l <;> cases (D.toP d).canLay0 <;> cases PyData.canLayAll0 (D.toPs l) <;> cases Nat.ble (D.toP d).depth k <;> cases Nat.ble (PyData.depthAll (D.toPs l)) k <;> rfl
@[simp] theorem fine_int (k : Nat) (i : Int) : D.fine k (.int i) = true := by simp [D.fine, D.keyly, D.toP, PyData.canLay0, PyData.depth]
@[simp] theorem fine_bl (k : Nat) (b : Bool) : D.fine k (.bl b) = true := by simp [D.fine, D.keyly, D.toP, PyData.canLay0, PyData.depth]
@[simp] theorem fine_non (k : Nat) : D.fine k .non = true := by simp [D.fine, D.keyly, D.toP, PyData.canLay0, PyData.depth]
theorem fine_str (k : Nat) (s : List Nat) : D.fine k (.str s) = s.all (· < 1114112) := by
  simp only [D.fine, D.keyly, D.toP, PyData.canLay0, PyData.depth, PyData.strOk, Bool.true_and, List.all_toArray]
  rw [show Nat.ble 0 k = true from by simp, Bool.and_true]
@[simp] theorem fine_tup (k : Nat) (l : List D) : D.fine (k + 1) (.tup l) = D.fines k l := by
  simp only [D.fine, D.fines, D.keyly, D.toP, PyData.canLay0, PyData.depth]
  rw [show Nat.ble (PyData.depthAll (D.toPs l) + 1) (k + 1) = Nat.ble (PyData.depthAll (D.toPs l)) k from rfl]
theorem fine_mono {k k' : Nat} (h : k ≤ k') {d : D} (q : D.fine k d = true) : D.fine k' d = true := by
  simp only [D.fine, Bool.and_eq_true, Nat.ble_eq] at q ⊢
  exact ⟨q.1, Nat.le_trans q.2 h⟩
theorem fines_mono {k k' : Nat} (h : k ≤ k') {l : List D} (q : D.fines k l = true) : D.fines k' l = true := by
  simp only [D.fines, Bool.and_eq_true, Nat.ble_eq] at q ⊢
  exact ⟨q.1, Nat.le_trans q.2 h⟩
theorem fines_map {A : Type} {k : Nat} {f : A → D} (h : ∀ a, D.fine k (f a) = true) : ∀ l : List A, D.fines k (l.map f) = true
  | [] => fines_nil k
  | a :: l => by rw [List.map_cons, fines_cons, h a, fines_map h l]; rfl
theorem fine_noObj {k : Nat} {d : D} (h : D.fine k d = true) : D.noObj d = true := by
  simp only [D.fine, Bool.and_eq_true] at h
  exact keyly_noObj d h.1.1
theorem fines_noObj {k : Nat} {d : List D} (h : D.fines k d = true) : D.noObjs d = true := by
  simp only [D.fines, Bool.and_eq_true] at h
  exact keylys_noObj d h.1.1
theorem fine_shaped {k : Nat} (hk : k ≤ 64) {d : D} (h : D.fine k d = true) : SeqAt.shaped (D.toP d) = true := by
  simp only [D.fine, Bool.and_eq_true, Nat.ble_eq] at h
  simp only [SeqAt.shaped, h.1.2, Bool.true_and, decide_eq_true_eq]
  omega
theorem deref_noObj {d : D} (M : Mem) (h : D.noObj d = true) : derefD M d = d := by
  cases d <;> first | rfl | simp [D.noObj] at h
theorem eq_fine {d e : D} (h : D.fine 32 d = true) (h' : D.fine 32 e = true) (n : Bool) (M : Mem) : eqD n d e M = .ok (.bl (if n then !PyData.eqv (D.toP d) (D.toP e) else PyData.eqv (D.toP d) (D.toP e))) M := by
  simp only [eqD, deref_noObj M (fine_noObj h), deref_noObj M (fine_noObj h'), fine_noObj h, fine_noObj h', fine_shaped (by decide) h, fine_shaped (by decide) h', Bool.and_self, if_true]
theorem any_toPs (f : PyData → Bool) : ∀ l : List D, (D.toPs l).any f = l.any fun d => f (D.toP d)
  | [] => rfl
  | d :: l => by simp only [D.toPs, List.any_cons, any_toPs f l]
theorem in_fine {x y : D} {l : List D} {M : Mem} (hy : seqD M y = some l) (h : D.fine 32 x = true) (h' : D.fines 32 l = true) (n : Bool) : inD n x y M = .ok (.bl (if n then !(l.any fun z => PyData.eqv (D.toP z) (D.toP x)) else l.any fun z => PyData.eqv (D.toP z) (D.toP x))) M := by
  have hl : PyData.canLayAll0 (D.toPs l) = true := by simp only [D.fines, Bool.and_eq_true] at h'; exact h'.1.2
  rw [inD_S (dctD_none hy) (dksD_none hy)]
  simp only [inS, hy, fine_noObj h, fines_noObj h', fine_shaped (by decide) h, hl, Bool.and_self, if_true, any_toPs]
/-! ### encodings -/
structure Enc {A : Type} [DecidableEq A] (f : A → D) (k : Nat) : Prop where
  fine : ∀ a, D.fine k (f a) = true
  inj : ∀ a b, PyData.eqv (D.toP (f a)) (D.toP (f b)) = decide (a = b)
section
variable {A : Type} [DecidableEq A] {f : A → D} {k : Nat}
theorem Enc.mono (h : Enc f k) {k' : Nat} (hk : k ≤ k') : Enc f k' := ⟨fun a => fine_mono hk (h.fine a), h.inj⟩
theorem Enc.eq (h : Enc f k) (hk : k ≤ 32) (n : Bool) (a b : A) (M : Mem) : eqD n (f a) (f b) M = .ok (.bl (if n then !decide (a = b) else decide (a = b))) M := by
  rw [eq_fine (fine_mono hk (h.fine a)) (fine_mono hk (h.fine b)), h.inj]
theorem Enc.isIn (h : Enc f k) (hk : k ≤ 32) {y : D} {l : List A} {M : Mem} (hy : seqD M y = some (l.map f)) (n : Bool) (a : A) : inD n (f a) y M = .ok (.bl (if n then !decide (a ∈ l) else decide (a ∈ l))) M := by
  have e : ((l.map f).any fun z => PyData.eqv (D.toP z) (D.toP (f a))) = decide (a ∈ l) := by
    rw [List.any_map]
    rw [Bool.eq_iff_iff]
    simp only [List.any_eq_true, Function.comp, h.inj, decide_eq_true_eq]
    constructor
    · rintro ⟨b, hb, rfl⟩; exact hb
    · intro hb; exact ⟨a, hb, rfl⟩
  rw [in_fine hy (fine_mono hk (h.fine a)) (fines_mono hk (fines_map h.fine l)), e]
theorem eqvAll_map (h : ∀ a b, PyData.eqv (D.toP (f a)) (D.toP (f b)) = decide (a = b)) : ∀ l m : List A, PyData.eqvAll (D.toPs (l.map f)) (D.toPs (m.map f)) = decide (l = m)
  | [], [] => by simp [D.toPs, PyData.eqvAll]
  | [], _ :: _ => by simp [D.toPs, PyData.eqvAll]
  | _ :: _, [] => by simp [D.toPs, PyData.eqvAll]
  | a :: l, b :: m => by
    simp only [List.map_cons, D.toPs, PyData.eqvAll, h a b, eqvAll_map h l m, List.cons.injEq]
    by_cases e : a = b <;> by_cases e' : l = m <;> simp [e, e']
theorem Enc.tup (h : Enc f k) : Enc (fun l : List A => .tup (l.map f)) (k + 1) :=
  ⟨fun l => by rw [fine_tup]; exact fines_map h.fine l, fun l m => by simp only [D.toP, PyData.eqv]; exact eqvAll_map h.inj l m⟩
end
theorem enc_int : Enc D.int 0 := ⟨fun _ => fine_int _ _, fun a b => eqv_int a b⟩
abbrev dN (n : Nat) : D := .int (n : Int)
theorem enc_nat : Enc dN 0 := ⟨fun _ => fine_int _ _, fun a b => by
  show PyData.eqv (.int _) (.int _) = _
  rw [eqv_int]
  rw [Bool.eq_iff_iff, decide_eq_true_eq, decide_eq_true_eq]
  exact Int.ofNat_inj⟩
theorem enc_bl : Enc D.bl 0 := ⟨fun _ => fine_bl _ _, fun a b => by
  show PyData.eqv (.bool a) (.bool b) = _
  simp only [PyData.eqv]
  cases a <;> cases b <;> rfl⟩
def dO {A : Type} (f : A → D) : Option A → D
  | none => .non
  | some a => f a
theorem enc_opt {A : Type} [DecidableEq A] {f : A → D} {k : Nat} (h : Enc f k) (hn : ∀ a, PyData.eqv (D.toP (f a)) .none = false ∧ PyData.eqv .none (D.toP (f a)) = false) : Enc (dO f) k := by
  refine ⟨fun a => by cases a <;> simp [dO, h.fine], fun a b => ?_⟩
  cases a with
  | none => cases b with
    | none => simp [dO, D.toP, PyData.eqv]
    | some b => simp [dO, D.toP, (hn b).2]
  | some a => cases b with
    | none => simp [dO, D.toP, (hn a).1]
    | some b => simp [dO, h.inj]
theorem enc_onat : Enc (dO dN) 0 := enc_opt enc_nat fun a => ⟨by simp [D.toP, PyData.eqv], by simp [D.toP, PyData.eqv]⟩
/-! ### keys -/
mutual
theorem keyly_eq : ∀ d e : D, D.keyly d = true → D.keyly e = true → (PyData.eqv (D.toP d) (D.toP e) = true ↔ D.toK d = D.toK e)
  | .non, e, _, h => by cases e <;> simp [D.keyly, D.toP, D.toK, PyData.eqv] at h ⊢
  | .bl b, e, _, h => by
    cases e with
    | bl c => cases b <;> cases c <;> simp [D.toP, D.toK, PyData.eqv]
    | int i => simp [D.toP, D.toK, PyData.eqv]
    | _ => simp [D.keyly, D.toP, D.toK, PyData.eqv] at h ⊢
  | .int i, e, _, h => by
    cases e with
    | bl c => simp [D.toP, D.toK, PyData.eqv]
    | int j => simp [D.toP, D.toK, PyData.eqv]
    | _ => simp [D.keyly, D.toP, D.toK, PyData.eqv] at h ⊢
  | .str s, e, _, h => by
    cases e with
    | str t => simp [D.toP, D.toK, PyData.eqv]
    | _ => simp [D.keyly, D.toP, D.toK, PyData.eqv] at h ⊢
  | .tup l, e, hd, h => by
    cases e with
    | tup m =>
      simp only [D.keyly] at hd h
      simp only [D.toP, D.toK, PyData.eqv, NestedKey.tup.injEq]
      exact keylys_eq l m hd h
    | _ => simp [D.keyly, D.toP, D.toK, PyData.eqv] at h ⊢
  | .obj _, _, h, _ => by simp [D.keyly] at h
  | .lst _, _, h, _ => by simp [D.keyly] at h
  | .exn _ _ _, _, h, _ => by simp [D.keyly] at h
  | .ins _ _ _, _, h, _ => by simp [D.keyly] at h
theorem keylys_eq : ∀ l m : List D, D.keylys l = true → D.keylys m = true → (PyData.eqvAll (D.toPs l) (D.toPs m) = true ↔ D.toKs l = D.toKs m)
  | [], [], _, _ => by simp [D.toPs, D.toKs, PyData.eqvAll]
  | [], _ :: _, _, _ => by simp [D.toPs, D.toKs, PyData.eqvAll]
  | _ :: _, [], _, _ => by simp [D.toPs, D.toKs, PyData.eqvAll]
  | d :: l, e :: m, h, h' => by
    simp only [D.keylys, Bool.and_eq_true] at h h'
    simp only [D.toPs, D.toKs, PyData.eqvAll, Bool.and_eq_true, List.cons.injEq, keyly_eq d e h.1 h'.1, keylys_eq l m h.2 h'.2]
end
mutual
theorem depth_toK : ∀ d : D, NestedKey.depth (D.toK d) ≤ (D.toP d).depth
  | .non => by simp [D.toK, NestedKey.depth]
  | .bl b => by cases b <;> simp [D.toK, NestedKey.depth]
  | .int i => by simp [D.toK, NestedKey.depth]
  | .str s => by simp [D.toK, NestedKey.depth]
  | .obj _ => by simp [D.toK, NestedKey.depth]
  | .lst _ => by simp [D.toK, NestedKey.depth]
  | .exn _ _ _ => by simp [D.toK, NestedKey.depth]
  | .ins _ _ _ => by simp [D.toK, NestedKey.depth]
  | .tup l => by
    simp only [D.toK, NestedKey.depth, D.toP, PyData.depth]
    exact Nat.succ_le_succ (depth_toKs l)
theorem depth_toKs : ∀ l : List D, NestedKey.depthAll (D.toKs l) ≤ PyData.depthAll (D.toPs l)
  | [] => Nat.le_refl _
  | d :: l => by
    simp only [D.toKs, NestedKey.depthAll, D.toPs, PyData.depthAll]
    have h1 := depth_toK d
    have h2 := depth_toKs l
    omega
end
theorem isKey_fine {l : List D} (h : D.fines 7 l = true) : D.isKey (.tup l) = true := by
  simp only [D.fines, Bool.and_eq_true, Nat.ble_eq] at h
  simp only [D.isKey, Bool.and_eq_true, Nat.ble_eq]
  exact ⟨h.1.1, Nat.le_trans (depth_toKs l) h.2⟩
/-- tuples as keys -/
structure Key {A : Type} [DecidableEq A] (f : A → D) : Prop where
  enc : Enc f 8
  tup : ∀ a, ∃ l, f a = .tup l
section
variable {A : Type} [DecidableEq A] {f : A → D}
theorem Key.isKey (h : Key f) (a : A) : D.isKey (f a) = true := by
  obtain ⟨l, e⟩ := h.tup a
  have := h.enc.fine a
  rw [e] at this ⊢
  rw [fine_tup] at this
  exact isKey_fine this
theorem Key.inj (h : Key f) (a b : A) : D.toK (f a) = D.toK (f b) ↔ a = b := by
  have h1 := h.enc.fine a
  have h2 := h.enc.fine b
  simp only [D.fine, Bool.and_eq_true] at h1 h2
  rw [← keyly_eq _ _ h1.1.1 h2.1.1, h.enc.inj, decide_eq_true_eq]
theorem Key.beq (h : Key f) (a b : A) : NestedKey.beq (D.toK (f a)) (D.toK (f b)) = decide (a = b) := by
  rw [Bool.eq_iff_iff, beq_iff, h.inj, decide_eq_true_eq]
def lookA {B : Type} (a : A) : List (A × B) → Option B
  | [] => none
  | p :: l => if p.1 = a then some p.2 else lookA a l
def putA {B : Type} (a : A) (b : B) (l : List (A × B)) : List (A × B) := if (lookA a l).isSome = true then l.map fun p => if p.1 = a then (p.1, b) else p else l ++ [(a, b)]
theorem Key.get {B : Type} {g : B → D} (h : Key f) (a : A) : ∀ l : List (A × B), dgetD (D.toK (f a)) (l.map fun p => (f p.1, g p.2)) = (lookA a l).map g
  | [] => rfl
  | p :: l => by
    have ih := h.get (g := g) a l
    simp only [List.map_cons, dgetD, h.beq, ih, lookA, decide_eq_true_eq]
    by_cases e : p.1 = a <;> simp [e]
theorem Key.put {B : Type} {g : B → D} (h : Key f) (a : A) (b : B) (l : List (A × B)) : dsetD (f a) (g b) (l.map fun p => (f p.1, g p.2)) = (putA a b l).map fun p => (f p.1, g p.2) := by
  unfold dsetD putA
  rw [h.get, Option.isSome_map]
  split
  · rw [List.map_map, List.map_map]
    refine List.map_congr_left fun p _ => ?_
    simp only [Function.comp, h.beq, decide_eq_true_eq]
    split <;> rfl
  · simp
end
end RI

set_option maxHeartbeats 4000000
namespace HT
open PySem L2 RI
/-! ### houses as data -/
inductive Kd where
  | c | f | k | p | s
  deriving DecidableEq
structure Nm where
  kd : Kd
  ix : Bool
  deriving DecidableEq
def Kd.ch : Kd → Nat
  | .c => 99 | .f => 102 | .k => 107 | .p => 112 | .s => 115
def dB (b : Bool) : Nat := if b then 1 else 0
def Nm.txt (n : Nm) : List Nat := [n.kd.ch, if n.ix then 49 else 48]
theorem txt_inj (a b : Nm) : a.txt = b.txt ↔ a = b := by
  obtain ⟨k, i⟩ := a
  obtain ⟨k', i'⟩ := b
  cases k <;> cases i <;> cases k' <;> cases i' <;> decide
def eNm (n : Nm) : D := .str n.txt
inductive Ln where
  | set (v : Nat) | add (v : Nat) | zero (j : Nat) | go (j : Nat) | say | stop | mark | keep
  | get (b : Bool) | put (b : Bool) | take (b : Bool) | free (b : Bool) | send (b : Bool) | hear (b : Bool) | wake (b : Bool) | wait (b : Bool) | read (b : Bool) | note (b : Bool)
  | hand (p : Nat) (n : Nm)
  deriving DecidableEq
def Ln.word : Ln → List Nat
  | .set _ => [115, 101, 116]
  | .add _ => [97, 100, 100]
  | .zero _ => [122, 101, 114, 111]
  | .go _ => [103, 111]
  | .say => [115, 97, 121]
  | .stop => [115, 116, 111, 112]
  | .mark => [109, 97, 114, 107]
  | .keep => [107, 101, 101, 112]
  | .get _ => [103, 101, 116]
  | .put _ => [112, 117, 116]
  | .take _ => [116, 97, 107, 101]
  | .free _ => [102, 114, 101, 101]
  | .send _ => [115, 101, 110, 100]
  | .hear _ => [104, 101, 97, 114]
  | .wake _ => [119, 97, 107, 101]
  | .wait _ => [119, 97, 105, 116]
  | .read _ => [114, 101, 97, 100]
  | .note _ => [110, 111, 116, 101]
  | .hand _ _ => [104, 97, 110, 100]
def Ln.rest : Ln → List D
  | .set v => [dN v]
  | .add v => [dN v]
  | .zero j => [dN j]
  | .go j => [dN j]
  | .say => []
  | .stop => []
  | .mark => []
  | .keep => []
  | .get b => [dN (dB b)]
  | .put b => [dN (dB b)]
  | .take b => [dN (dB b)]
  | .free b => [dN (dB b)]
  | .send b => [dN (dB b)]
  | .hear b => [dN (dB b)]
  | .wake b => [dN (dB b)]
  | .wait b => [dN (dB b)]
  | .read b => [dN (dB b)]
  | .note b => [dN (dB b)]
  | .hand p n => [dN p, eNm n]
def eLn (l : Ln) : D := .tup (.str l.word :: l.rest)
def Ln.thing : Ln → Option Nm
  | .get b => some ⟨.c, b⟩
  | .put b => some ⟨.c, b⟩
  | .take b => some ⟨.k, b⟩
  | .free b => some ⟨.k, b⟩
  | .send b => some ⟨.p, b⟩
  | .hear b => some ⟨.p, b⟩
  | .wake b => some ⟨.s, b⟩
  | .wait b => some ⟨.s, b⟩
  | .read b => some ⟨.f, b⟩
  | .note b => some ⟨.f, b⟩
  | .hand _ n => some n
  | _ => none
inductive Od where
  | any | ring | rank | lent
  deriving DecidableEq
def Od.txt : Od → List Nat
  | .any => [97, 110, 121]
  | .ring => [114, 105, 110, 103]
  | .rank => [114, 97, 110, 107]
  | .lent => [108, 101, 110, 116]
def mkTxt (all : Bool) : List Nat := if all then [97, 108, 108] else [111, 119, 110]
structure Hs where
  rows : List (List Ln)
  kc : Nat
  kl : Nat
  kp : List Nat
  ks : Nat
  kf : Nat
  given : List (List Nm)
  ord : Od
  all : Bool
def eTup {A : Type} (f : A → D) (l : List A) : D := .tup (l.map f)
def eRows (r : List (List Ln)) : D := eTup (eTup eLn) r
def eKinds (H : Hs) : D := .tup [dN H.kc, dN H.kl, eTup dN H.kp, dN H.ks, dN H.kf]
def eRights (r : List (List Nm)) : D := eTup (eTup eNm) r
def eWay (H : Hs) : D := .tup [.str H.ord.txt, .str (mkTxt H.all)]
/-- the house as the program has it -/
def eHs (H : Hs) : D := .ins "House" ["rows", "kinds", "given", "way"] [eRows H.rows, eKinds H, eRights H.given, eWay H]
/-- as the law has it -/
def hDks (H : Hs) : List (D × D) := [(.str [114, 111, 119, 115], eRows H.rows), (.str [107, 105, 110, 100, 115], eKinds H), (.str [103, 105, 118, 101, 110], eRights H.given), (.str [119, 97, 121], eWay H)]
inductive Ev where
  | note (p : Nat) (b : Bool) (v : Nat) | mark (p : Nat)
  deriving DecidableEq
def eEv : Ev → D
  | .note p b v => .tup [.str [110, 111, 116, 101], dN p, dN (dB b), dN v]
  | .mark p => .tup [.str [109, 97, 114, 107], dN p]
structure St where
  places : List Nat
  numbers : List Nat
  cells : List Nat
  owners : List (Option Nat)
  pipes : List (List Nat)
  signals : List Bool
  blocks : List Nat
  disk : List Nat
  buffer : List Ev
  log : List Ev
  rights : List (List Nm)
  turn : Int
  deriving DecidableEq
def fSt (s : St) : List D := [eTup dN s.places, eTup dN s.numbers, eTup dN s.cells, eTup (dO dN) s.owners, eTup (eTup dN) s.pipes, eTup D.bl s.signals, eTup dN s.blocks, eTup dN s.disk, eTup eEv s.buffer, eTup eEv s.log, eRights s.rights, .int s.turn]
def eSt (s : St) : D := .tup (fSt s)
theorem enc_nm : Enc eNm 0 := by
  refine ⟨fun n => ?_, fun a b => ?_⟩
  · show D.fine 0 (.str n.txt) = true
    rw [fine_str]
    obtain ⟨k, i⟩ := n
    cases k <;> cases i <;> decide
  · show PyData.eqv (.str _) (.str _) = _
    simp only [PyData.eqv, str_beq]
    rw [Bool.eq_iff_iff, decide_eq_true_eq, decide_eq_true_eq]
    exact txt_inj a b
theorem enc_ev : Enc eEv 1 := by
  refine ⟨fun e => ?_, fun a b => ?_⟩
  · cases e <;> simp [eEv, fine_str]
  · cases a <;> cases b
    · rename_i p b v p' b' v'
      have h1 := enc_nat.inj p p'
      have h2 := enc_nat.inj (dB b) (dB b')
      have h3 := enc_nat.inj v v'
      simp only [D.toP] at h1 h2 h3
      simp only [eEv, D.toP, D.toPs, PyData.eqv, PyData.eqvAll, Bool.and_true] at h1 h2 h3 ⊢
      rw [h1, h2, h3]
      cases b <;> cases b' <;> by_cases e1 : p = p' <;> by_cases e2 : v = v' <;> simp [e1, e2, dB]
    · simp [eEv, D.toP, D.toPs, PyData.eqv, PyData.eqvAll]
    · simp [eEv, D.toP, D.toPs, PyData.eqv, PyData.eqvAll]
    · rename_i p p'
      have h1 := enc_nat.inj p p'
      simp only [D.toP] at h1
      simp only [eEv, D.toP, D.toPs, PyData.eqv, PyData.eqvAll, Bool.and_true] at h1 ⊢
      rw [h1]
      by_cases e1 : p = p' <;> simp [e1]
theorem enc_st : Enc eSt 8 := by
  have t1 : Enc (eTup dN) 7 := enc_nat.tup.mono (by decide)
  have t2 : Enc (eTup (dO dN)) 7 := enc_onat.tup.mono (by decide)
  have t3 : Enc (eTup (eTup dN)) 7 := enc_nat.tup.tup.mono (by decide)
  have t4 : Enc (eTup D.bl) 7 := enc_bl.tup.mono (by decide)
  have t5 : Enc (eTup eEv) 7 := enc_ev.tup.mono (by decide)
  have t6 : Enc eRights 7 := enc_nm.tup.tup.mono (by decide)
  refine ⟨fun s => ?_, fun a b => ?_⟩
  · show D.fine 8 (.tup (fSt s)) = true
    rw [fine_tup]
    simp only [fSt, fines_cons, fines_nil, fine_int, Bool.and_true, t1.fine, t2.fine, t3.fine, t4.fine, t5.fine, t6.fine, Bool.and_self]
  · obtain ⟨a0, a1, a2, a3, a4, a5, a6, a7, a8, a9, a10, a11⟩ := a
    obtain ⟨b0, b1, b2, b3, b4, b5, b6, b7, b8, b9, b10, b11⟩ := b
    show PyData.eqv (.tuple (D.toPs (fSt _))) (.tuple (D.toPs (fSt _))) = _
    simp only [PyData.eqv, fSt, D.toPs, PyData.eqvAll, t1.inj, t2.inj, t3.inj, t4.inj, t5.inj, t6.inj, enc_int.inj, Bool.and_true]
    rw [Bool.eq_iff_iff]
    simp only [Bool.and_eq_true, decide_eq_true_eq, St.mk.injEq]
theorem key_st : Key eSt := ⟨enc_st, fun s => ⟨fSt s, rfl⟩⟩
end HT

set_option maxHeartbeats 4000000
namespace HT
open PySem L2 RI
/-! ### readings of encodings -/
@[simp] theorem dO_some {A : Type} (f : A → D) (a : A) : dO f (some a) = f a := (rfl)
@[simp] theorem dO_none {A : Type} (f : A → D) : dO f none = .non := (rfl)
def okO {A : Type} (M : Mem) (f : A → D) : Option A → Res D
  | some a => .ok (f a) M
  | none => .bad
@[simp] theorem okO_some {A : Type} (M : Mem) (f : A → D) (a : A) : okO M f (some a) = .ok (f a) M := (rfl)
@[simp] theorem okO_none {A : Type} (M : Mem) (f : A → D) : okO M f none = .bad := (rfl)
theorem at_natO {A : Type} (l : List A) (n : Nat) : atI l (n : Int) = l[n]? := by
  by_cases h : n < l.length
  · rw [List.getElem?_eq_getElem h]; exact atI_nat (List.getElem?_eq_getElem h)
  · rw [List.getElem?_eq_none (by omega)]
    unfold atI
    have : ixN l.length (n : Int) = none := by
      unfold ixN
      simp
      omega
    first | rw [this]; rfl | simp [this]
@[simp] theorem ix_eTup {A : Type} (f : A → D) (l : List A) (n : Nat) (M : Mem) : ixD (eTup f l) (.int (n : Int)) M = okO M f l[n]? := by
  unfold eTup
  rw [ix_seq (l := l.map f) rfl, at_natO, List.getElem?_map]
  cases l[n]? <;> rfl
@[simp] theorem ix_eTup0 {A : Type} (f : A → D) (l : List A) (M : Mem) : ixD (eTup f l) (.int 0) M = okO M f l[0]? := ix_eTup f l 0 M
@[simp] theorem ix_eTup1 {A : Type} (f : A → D) (l : List A) (M : Mem) : ixD (eTup f l) (.int 1) M = okO M f l[1]? := ix_eTup f l 1 M
section
variable (s : St) (H : Hs) (M : Mem)
@[simp] theorem st0 : ixD (eSt s) (.int 0) M = .ok (eTup dN s.places) M := (rfl)
@[simp] theorem st1 : ixD (eSt s) (.int 1) M = .ok (eTup dN s.numbers) M := (rfl)
@[simp] theorem st2 : ixD (eSt s) (.int 2) M = .ok (eTup dN s.cells) M := (rfl)
@[simp] theorem st3 : ixD (eSt s) (.int 3) M = .ok (eTup (dO dN) s.owners) M := (rfl)
@[simp] theorem st4 : ixD (eSt s) (.int 4) M = .ok (eTup (eTup dN) s.pipes) M := (rfl)
@[simp] theorem st5 : ixD (eSt s) (.int 5) M = .ok (eTup D.bl s.signals) M := (rfl)
@[simp] theorem st6 : ixD (eSt s) (.int 6) M = .ok (eTup dN s.blocks) M := (rfl)
@[simp] theorem st7 : ixD (eSt s) (.int 7) M = .ok (eTup dN s.disk) M := (rfl)
@[simp] theorem st8 : ixD (eSt s) (.int 8) M = .ok (eTup eEv s.buffer) M := (rfl)
@[simp] theorem st9 : ixD (eSt s) (.int 9) M = .ok (eTup eEv s.log) M := (rfl)
@[simp] theorem st10 : ixD (eSt s) (.int 10) M = .ok (eTup (eTup eNm) s.rights) M := (rfl)
@[simp] theorem st11 : ixD (eSt s) (.int 11) M = .ok (.int s.turn) M := (rfl)
@[simp] theorem kn0 : ixD (eKinds H) (.int 0) M = .ok (dN H.kc) M := (rfl)
@[simp] theorem kn1 : ixD (eKinds H) (.int 1) M = .ok (dN H.kl) M := (rfl)
@[simp] theorem kn2 : ixD (eKinds H) (.int 2) M = .ok (eTup dN H.kp) M := (rfl)
@[simp] theorem kn3 : ixD (eKinds H) (.int 3) M = .ok (dN H.ks) M := (rfl)
@[simp] theorem kn4 : ixD (eKinds H) (.int 4) M = .ok (dN H.kf) M := (rfl)
@[simp] theorem wy0 : ixD (eWay H) (.int 0) M = .ok (.str H.ord.txt) M := (rfl)
@[simp] theorem wy1 : ixD (eWay H) (.int 1) M = .ok (.str (mkTxt H.all)) M := (rfl)
@[simp] theorem ln1 (l : Ln) : ixD (eLn l) (.int 1) M = okO M id l.rest[0]? := by cases l <;> (rfl)
@[simp] theorem ln2 (l : Ln) : ixD (eLn l) (.int 2) M = okO M id l.rest[1]? := by cases l <;> (rfl)
@[simp] theorem ln0 (l : Ln) : ixD (eLn l) (.int 0) M = .ok (.str l.word) M := by cases l <;> (rfl)
end
abbrev hFld : List (Str × Str) := [("House", "rows"), ("House", "kinds"), ("House", "given"), ("House", "way")]
@[simp] theorem fld_rows (H : Hs) (M : Mem) : fldD hFld "rows" (eHs H) M = .ok (eRows H.rows) M := (rfl)
@[simp] theorem fld_kinds (H : Hs) (M : Mem) : fldD hFld "kinds" (eHs H) M = .ok (eKinds H) M := (rfl)
@[simp] theorem fld_given (H : Hs) (M : Mem) : fldD hFld "given" (eHs H) M = .ok (eRights H.given) M := (rfl)
@[simp] theorem fld_way (H : Hs) (M : Mem) : fldD hFld "way" (eHs H) M = .ok (eWay H) M := (rfl)
@[simp] theorem len_eTup {A : Type} (f : A → D) (l : List A) (M : Mem) : lenX [eTup f l] M = .ok (dN l.length) M := by
  unfold eTup
  rw [len_of (l := l.map f) rfl, List.length_map]
/-! words -/
def okW (s : List Nat) : Bool := s.all (· < 1114112)
theorem eq_words (s t : List Nat) (hs : okW s = true) (ht : okW t = true) (n : Bool) (M : Mem) : eqD n (.str s) (.str t) M = .ok (.bl (if n then !decide (s = t) else decide (s = t))) M := eq_ss hs ht n M
@[simp] theorem okW_word (l : Ln) : okW l.word = true := by cases l <;> simp [okW, Ln.word]
@[simp] theorem eq_word (l : Ln) (t : List Nat) (n : Bool) (M : Mem) (ht : okW t = true) : eqD n (.str l.word) (.str t) M = .ok (.bl (if n then !decide (l.word = t) else decide (l.word = t))) M := eq_words _ _ (okW_word l) ht n M
@[simp] theorem is_str_non (n : Bool) (s : List Nat) (M : Mem) : isD n (.str s) .non M = .ok (.bl n) M := by cases n <;> rfl
@[simp] theorem is_nm_non (n : Bool) (s : Nm) (M : Mem) : isD n (eNm s) .non M = .ok (.bl n) M := by cases n <;> rfl
@[simp] theorem is_non_non (n : Bool) (M : Mem) : isD n .non .non M = .ok (.bl (!n)) M := by cases n <;> rfl
@[simp] theorem is_int_non (n : Bool) (i : Int) (M : Mem) : isD n (.int i) .non M = .ok (.bl n) M := by cases n <;> rfl
@[simp] theorem is_ln_non (n : Bool) (l : Ln) (M : Mem) : isD n (eLn l) .non M = .ok (.bl n) M := by cases n <;> rfl
@[simp] theorem is_onat_non (n : Bool) (o : Option Nat) (M : Mem) : isD n (dO dN o) .non M = .ok (.bl (if n then o.isSome else o.isNone)) M := by cases n <;> cases o <;> rfl
@[simp] theorem eq_onat (n : Bool) (o : Option Nat) (p : Nat) (M : Mem) : eqD n (dO dN o) (dN p) M = .ok (.bl (if n then !decide (o = some p) else decide (o = some p))) M := enc_onat.eq (by decide) n o (some p) M
@[simp] theorem eq_tnil (n : Bool) (l : List Nat) (M : Mem) : eqD n (eTup dN l) (.tup []) M = .ok (.bl (if n then !l.isEmpty else l.isEmpty)) M := by
  have h := enc_nat.tup.eq (by decide) n l [] M
  have e : decide (l = []) = l.isEmpty := by cases l <;> rfl
  rw [e] at h
  exact h
@[simp] theorem in_nms (n : Bool) (x : Nm) (l : List Nm) (M : Mem) : inD n (eNm x) (eTup eNm l) M = .ok (.bl (if n then !decide (x ∈ l) else decide (x ∈ l))) M := enc_nm.isIn (by decide) rfl n x
@[simp] theorem noO_nm (n : Nm) : D.noObj (eNm n) = true := (rfl)
@[simp] theorem noO_ln (l : Ln) : D.noObj (eLn l) = true := by cases l <;> rfl
@[simp] theorem noO_ev (l : Ev) : D.noObj (eEv l) = true := by cases l <;> rfl
theorem noO_eTup {A : Type} {f : A → D} (h : ∀ a, D.noObj (f a) = true) (l : List A) : D.noObj (eTup f l) = true := noObjs_map f h l
@[simp] theorem noO_dO (o : Option Nat) : D.noObj (dO dN o) = true := by cases o <;> rfl
@[simp] theorem noO_t1 (l : List Nat) : D.noObj (eTup dN l) = true := noO_eTup (fun _ => rfl) l
@[simp] theorem noO_t2 (l : List (Option Nat)) : D.noObj (eTup (dO dN) l) = true := noO_eTup noO_dO l
@[simp] theorem noO_t3 (l : List (List Nat)) : D.noObj (eTup (eTup dN) l) = true := noO_eTup noO_t1 l
@[simp] theorem noO_t4 (l : List Bool) : D.noObj (eTup D.bl l) = true := noO_eTup (fun _ => rfl) l
@[simp] theorem noO_t5 (l : List Ev) : D.noObj (eTup eEv l) = true := noO_eTup noO_ev l
@[simp] theorem noO_t6 (l : List Nm) : D.noObj (eTup eNm l) = true := noO_eTup (fun _ => rfl) l
@[simp] theorem noO_t7 (l : List (List Nm)) : D.noObj (eTup (eTup eNm) l) = true := noO_eTup noO_t6 l
@[simp] theorem noO_t8 (l : List Ln) : D.noObj (eTup eLn l) = true := noO_eTup noO_ln l
@[simp] theorem noO_t9 (l : List (List Ln)) : D.noObj (eTup (eTup eLn) l) = true := noO_eTup noO_t8 l
@[simp] theorem noO_st (s : St) : D.noObj (eSt s) = true := fine_noObj (enc_st.fine s)
/-! ### lines where they stand -/
def lineOf (H : Hs) (s : St) (p : Nat) : Option Ln := match H.rows[p]?, s.places[p]? with
  | some r, some j => r[j]?
  | _, _ => none
/-- things stand where lines reach -/
structure Wf (H : Hs) (s : St) : Prop where
  places : s.places.length = H.rows.length
  numbers : s.numbers.length = H.rows.length
  cells : s.cells.length = H.kc
  owners : s.owners.length = H.kl
  pipes : s.pipes.length = H.kp.length
  signals : s.signals.length = H.ks
  blocks : s.blocks.length = H.kf
  disk : s.disk.length = H.kf
  rights : s.rights.length = H.rows.length
  own : ∀ o ∈ s.owners, ∀ p, o = some p → p < H.rows.length
  turn : -1 ≤ s.turn ∧ s.turn < H.rows.length
def hasK (H : Hs) (n : Nm) : Bool := match n.kd with
  | .c => decide (dB n.ix < H.kc)
  | .f => decide (dB n.ix < H.kf)
  | .k => decide (dB n.ix < H.kl)
  | .p => decide (dB n.ix < H.kp.length)
  | .s => decide (dB n.ix < H.ks)
def lnOk (H : Hs) (lines : Nat) : Ln → Bool
  | .set v => decide (v < 4)
  | .add v => decide (v < 4)
  | .zero j => decide (j ≤ lines)
  | .go j => decide (j ≤ lines)
  | .hand p n => decide (p < H.rows.length) && hasK H n
  | l => match l.thing with
    | some n => hasK H n
    | none => true
structure HOk (H : Hs) : Prop where
  many : 1 ≤ H.rows.length ∧ H.rows.length ≤ 3
  lines : ∀ r ∈ H.rows, 1 ≤ r.length ∧ r.length ≤ 10 ∧ ∀ l ∈ r, lnOk H r.length l = true
  kc : H.kc ≤ 2
  kl : H.kl ≤ 2
  kp : H.kp.length ≤ 2 ∧ ∀ z ∈ H.kp, 1 ≤ z ∧ z ≤ 2
  ks : H.ks ≤ 2
  kf : H.kf ≤ 2
  given : H.given.length = H.rows.length
  names : ∀ g ∈ H.given, (∀ n ∈ g, hasK H n = true) ∧ g.Pairwise fun a b => PySem.W.dataLt (D.toP (eNm a)) (D.toP (eNm b)) = true
/-- whether a line can be stepped, but for its right -/
def free (H : Hs) (s : St) (p : Nat) : Ln → Bool
  | .take b => decide (s.owners[dB b]? = some none)
  | .free b => decide (s.owners[dB b]? = some (some p))
  | .send b => match s.pipes[dB b]?, H.kp[dB b]? with
    | some q, some z => decide (q.length < z)
    | _, _ => false
  | .hear b => match s.pipes[dB b]? with
    | some q => !q.isEmpty
    | none => false
  | .wait b => s.signals[dB b]? == some true
  | _ => true
def rightOk (s : St) (p : Nat) (l : Ln) : Bool := match l.thing with
  | some n => (match s.rights[p]? with
    | some r => decide (n ∈ r)
    | none => false)
  | none => true
def can (H : Hs) (s : St) (p : Nat) : Bool := match lineOf H s p with
  | none => false
  | some l => rightOk s p l && free H s p l
end HT

set_option maxHeartbeats 4000000
namespace K76
open PySem RI HT
open L2 hiding St
theorem is_from (n : Nat) (v lo hi : Int) (M : Mem) : callF tb (n + 1) 0 [.int v, .int lo, .int hi] M = .ok (.bl (decide (lo ≤ v) && decide (v ≤ hi))) M := by
  rw [u_0]
  simp [b_0, D.ty, isiB]
  by_cases h : lo ≤ v <;> simp [h]
def kdOf : Ln → Option Nat
  | .get _ => some 99
  | .put _ => some 99
  | .take _ => some 107
  | .free _ => some 107
  | .send _ => some 112
  | .hear _ => some 112
  | .wake _ => some 115
  | .wait _ => some 115
  | .read _ => some 102
  | .note _ => some 102
  | _ => none
theorem kd_at (l : Ln) : kd_KINDS.lookup l.word = (kdOf l).map fun c => .str [c] := by
  cases l <;> rfl
theorem fld_eq : tFld = hFld := by rfl
theorem fmt_b (b : Bool) (M : Mem) : fmtD (dN (dB b)) M = .ok (.str [if b then 49 else 48]) M := by cases b <;> rfl
theorem fmt_c (c : Nat) (M : Mem) : fmtD (.str [c]) M = .ok (.str [c]) M := rfl
theorem thing_of (n : Nat) (l : Ln) (M : Mem) : callF tb (n + 1) 7 [eLn l] M = .ok (dO eNm l.thing) M := by
  rw [u_7]
  have hk := kd_at l
  cases l <;> simp only [Ln.word, kdOf, Option.map_some, Option.map_none] at hk <;> simp [b_7, Ln.rest, Ln.word, eq_words, okW, Ln.thing, hk, fmt_b, fmt_c, eNm, Nm.txt, Kd.ch]
theorem line_of (n : Nat) (H : Hs) (s : St) (p : Nat) (hp : p < H.rows.length) (hs : s.places.length = H.rows.length) (M : Mem) : callF tb (n + 1) 19 [eHs H, eSt s, dN p] M = .ok (dO eLn (lineOf H s p)) M := by
  rw [u_19]
  have h1 : H.rows[p]? = some (H.rows[p]'hp) := List.getElem?_eq_getElem hp
  have h2 : s.places[p]? = some (s.places[p]'(by omega)) := List.getElem?_eq_getElem (by omega)
  generalize hr : H.rows[p]'hp = r at h1
  generalize hj : s.places[p]'(by omega) = j at h2
  simp [b_19, fld_eq, eRows, h1, h2, lineOf, dO]
  by_cases h : j < r.length
  · have e : ¬ r.length ≤ j := by omega
    rw [List.getElem?_eq_getElem h]
    simp [h, e, dO]
  · simp [h, List.getElem?_eq_none (by omega : r.length ≤ j)]
end K76

set_option maxHeartbeats 4000000
namespace K76
open PySem RI HT
open L2 hiding St
theorem some_at {A : Type} {l : List A} {i : Nat} (h : i < l.length) : ∃ a, l[i]? = some a := ⟨l[i], List.getElem?_eq_getElem h⟩
theorem lineOf_ok {H : Hs} (ho : HOk H) {s : St} {p : Nat} {l : Ln} (h : lineOf H s p = some l) : ∃ k, lnOk H k l = true := by
  unfold lineOf at h
  split at h
  · rename_i r j h1 h2
    exact ⟨r.length, (ho.lines r (List.mem_of_getElem? h1)).2.2 l (List.mem_of_getElem? h)⟩
  · cases h
theorem can_step (n : Nat) (H : Hs) (ho : HOk H) (s : St) (wf : Wf H s) (p : Nat) (hp : p < H.rows.length) (M : Mem) : callF tb (n + 2) 20 [eHs H, eSt s, dN p] M = .ok (.bl (can H s p)) M := by
  rw [u_20]
  have hl := fun M => line_of n H s p hp wf.places M
  have ht := fun l M => thing_of n l M
  obtain ⟨rt, hr⟩ := some_at (l := s.rights) (i := p) (by rw [wf.rights]; exact hp)
  cases el : lineOf H s p with
  | none =>
    rw [el] at hl
    simp [b_20, hl, can, el]
  | some l =>
    rw [el] at hl
    obtain ⟨k, hk⟩ := lineOf_ok ho el
    cases l with
    | take b =>
      have hb : dB b < s.owners.length := by rw [wf.owners]; simpa [lnOk, Ln.thing, hasK] using hk
      obtain ⟨o, eo⟩ := some_at hb
      by_cases hm : (⟨.k, b⟩ : Nm) ∈ rt
      · cases o <;> simp [b_20, hl, ht, can, el, Ln.thing, Ln.word, Ln.rest, eq_words, okW, hr, rightOk, free, hm, eo]
      · simp [b_20, hl, ht, can, el, Ln.thing, Ln.word, Ln.rest, eq_words, okW, hr, rightOk, free, hm, eo]
    | free b =>
      have hb : dB b < s.owners.length := by rw [wf.owners]; simpa [lnOk, Ln.thing, hasK] using hk
      obtain ⟨o, eo⟩ := some_at hb
      by_cases hm : (⟨.k, b⟩ : Nm) ∈ rt
      · simp [b_20, hl, ht, can, el, Ln.thing, Ln.word, Ln.rest, eq_words, okW, hr, rightOk, free, hm, eo]
      · simp [b_20, hl, ht, can, el, Ln.thing, Ln.word, Ln.rest, eq_words, okW, hr, rightOk, free, hm, eo]
    | send b =>
      have hb : dB b < H.kp.length := by simpa [lnOk, Ln.thing, hasK] using hk
      obtain ⟨z, ez⟩ := some_at hb
      obtain ⟨q, eq⟩ := some_at (l := s.pipes) (by rw [wf.pipes]; exact hb)
      by_cases hm : (⟨.p, b⟩ : Nm) ∈ rt
      · simp [b_20, hl, ht, can, el, Ln.thing, Ln.word, Ln.rest, eq_words, okW, hr, rightOk, free, hm, ez, eq, fld_eq]
      · simp [b_20, hl, ht, can, el, Ln.thing, Ln.word, Ln.rest, eq_words, okW, hr, rightOk, free, hm, ez, eq]
    | hear b =>
      have hb : dB b < H.kp.length := by simpa [lnOk, Ln.thing, hasK] using hk
      obtain ⟨q, eq⟩ := some_at (l := s.pipes) (by rw [wf.pipes]; exact hb)
      by_cases hm : (⟨.p, b⟩ : Nm) ∈ rt
      · simp [b_20, hl, ht, can, el, Ln.thing, Ln.word, Ln.rest, eq_words, okW, hr, rightOk, free, hm, eq]
      · simp [b_20, hl, ht, can, el, Ln.thing, Ln.word, Ln.rest, eq_words, okW, hr, rightOk, free, hm, eq]
    | wait b =>
      have hb : dB b < s.signals.length := by rw [wf.signals]; simpa [lnOk, Ln.thing, hasK] using hk
      obtain ⟨q, eq⟩ := some_at hb
      by_cases hm : (⟨.s, b⟩ : Nm) ∈ rt
      · simp [b_20, hl, ht, can, el, Ln.thing, Ln.word, Ln.rest, eq_words, okW, hr, rightOk, free, hm, eq]
      · simp [b_20, hl, ht, can, el, Ln.thing, Ln.word, Ln.rest, eq_words, okW, hr, rightOk, free, hm, eq]
    | wake b =>
      by_cases hm : (⟨.s, b⟩ : Nm) ∈ rt <;> simp [b_20, hl, ht, can, el, Ln.thing, Ln.word, Ln.rest, eq_words, okW, hr, rightOk, free, hm]
    | get b =>
      by_cases hm : (⟨.c, b⟩ : Nm) ∈ rt <;> simp [b_20, hl, ht, can, el, Ln.thing, Ln.word, Ln.rest, eq_words, okW, hr, rightOk, free, hm]
    | put b =>
      by_cases hm : (⟨.c, b⟩ : Nm) ∈ rt <;> simp [b_20, hl, ht, can, el, Ln.thing, Ln.word, Ln.rest, eq_words, okW, hr, rightOk, free, hm]
    | read b =>
      by_cases hm : (⟨.f, b⟩ : Nm) ∈ rt <;> simp [b_20, hl, ht, can, el, Ln.thing, Ln.word, Ln.rest, eq_words, okW, hr, rightOk, free, hm]
    | note b =>
      by_cases hm : (⟨.f, b⟩ : Nm) ∈ rt <;> simp [b_20, hl, ht, can, el, Ln.thing, Ln.word, Ln.rest, eq_words, okW, hr, rightOk, free, hm]
    | hand q m =>
      by_cases hm : m ∈ rt <;> simp [b_20, hl, ht, can, el, Ln.thing, Ln.word, Ln.rest, eq_words, okW, hr, rightOk, free, hm]
    | set v => simp [b_20, hl, ht, can, el, Ln.thing, Ln.word, Ln.rest, eq_words, okW, hr, rightOk, free]
    | add v => simp [b_20, hl, ht, can, el, Ln.thing, Ln.word, Ln.rest, eq_words, okW, hr, rightOk, free]
    | zero v => simp [b_20, hl, ht, can, el, Ln.thing, Ln.word, Ln.rest, eq_words, okW, hr, rightOk, free]
    | go v => simp [b_20, hl, ht, can, el, Ln.thing, Ln.word, Ln.rest, eq_words, okW, hr, rightOk, free]
    | say => simp [b_20, hl, ht, can, el, Ln.thing, Ln.word, Ln.rest, eq_words, okW, hr, rightOk, free]
    | stop => simp [b_20, hl, ht, can, el, Ln.thing, Ln.word, Ln.rest, eq_words, okW, hr, rightOk, free]
    | mark => simp [b_20, hl, ht, can, el, Ln.thing, Ln.word, Ln.rest, eq_words, okW, hr, rightOk, free]
    | keep => simp [b_20, hl, ht, can, el, Ln.thing, Ln.word, Ln.rest, eq_words, okW, hr, rightOk, free]
end K76

set_option maxHeartbeats 4000000
namespace HT
open PySem RI
open L2 hiding St
/-! ### walks and cuts -/
@[simp] theorem lim0 : (0 ≤ LIM) = True := eq_true (by decide)
@[simp] theorem lim1 : (1 ≤ LIM) = True := eq_true (by decide)
@[simp] theorem lim2 : (2 ≤ LIM) = True := eq_true (by decide)
@[simp] theorem lim3 : (3 ≤ LIM) = True := eq_true (by decide)
@[simp] theorem lim4 : (4 ≤ LIM) = True := eq_true (by decide)
@[simp] theorem lim5 : (5 ≤ LIM) = True := eq_true (by decide)
@[simp] theorem lim6 : (6 ≤ LIM) = True := eq_true (by decide)
@[simp] theorem lim7 : (7 ≤ LIM) = True := eq_true (by decide)
@[simp] theorem lim8 : (8 ≤ LIM) = True := eq_true (by decide)
@[simp] theorem lim9 : (9 ≤ LIM) = True := eq_true (by decide)
@[simp] theorem lim10 : (10 ≤ LIM) = True := eq_true (by decide)
@[simp] theorem lim11 : (11 ≤ LIM) = True := eq_true (by decide)
@[simp] theorem lim12 : (12 ≤ LIM) = True := eq_true (by decide)
@[simp] theorem lim13 : (13 ≤ LIM) = True := eq_true (by decide)

theorem rng0 (n : Nat) : rngD 0 n = (List.range n).map dN := by
  unfold rngD
  refine List.map_congr_left fun i _ => ?_
  show D.int _ = D.int _
  rw [Int.zero_add]
theorem rg0 (n : Nat) : rgD 0 (n : Int) = (List.range n).map dN := rgD_eq n
theorem enum_map {A : Type} (f : A → D) : ∀ (l : List A) (k : Nat), enumD k (l.map f) = (l.zipIdx k).map fun q => .tup [dN q.2, f q.1]
  | [], k => rfl
  | a :: l, k => by simp only [List.map_cons, enumD, List.zipIdx_cons, enum_map f l (k + 1)]
theorem cut_lo (l : List D) (n : Nat) : cutD l (some (n : Int)) none = l.drop n := by
  unfold cutD
  rw [HT.sIx_nat, HT.sIx_none]
  by_cases h : n ≤ l.length
  · rw [Nat.min_eq_left h, List.take_of_length_le (by simp)]
  · rw [Nat.min_eq_right (by omega), List.drop_length, List.drop_eq_nil_of_le (by omega), List.take_nil]
theorem cut_hi (l : List D) (n : Nat) : cutD l none (some (n : Int)) = l.take n := by
  unfold cutD
  rw [HT.sIx_nat, HT.sIx_none, List.drop_zero, Nat.sub_zero]
  by_cases h : n ≤ l.length
  · rw [Nat.min_eq_left h]
  · rw [Nat.min_eq_right (by omega), List.take_length, List.take_of_length_le (by omega)]
@[simp] theorem sl_lo {A : Type} (f : A → D) (l : List A) (n : Nat) (M : Mem) : slD (eTup f l) (some (n : Int)) none M = .ok (eTup f (l.drop n)) M := by
  unfold eTup
  rw [slT, cut_lo, List.map_drop]
@[simp] theorem sl_lo1 {A : Type} (f : A → D) (l : List A) (n : Nat) (M : Mem) : slD (eTup f l) (some ((n : Int) + 1)) none M = .ok (eTup f (l.drop (n + 1))) M := sl_lo f l (n + 1) M
@[simp] theorem sl_one {A : Type} (f : A → D) (l : List A) (M : Mem) : slD (eTup f l) (some 1) none M = .ok (eTup f (l.drop 1)) M := sl_lo f l 1 M
@[simp] theorem sl_hi {A : Type} (f : A → D) (l : List A) (n : Nat) (M : Mem) : slD (eTup f l) none (some (n : Int)) M = .ok (eTup f (l.take n)) M := by
  unfold eTup
  rw [slT, cut_hi, List.map_take]
@[simp] theorem seq_eTup {A : Type} (f : A → D) (l : List A) (M : Mem) : seqD M (eTup f l) = some (l.map f) := (rfl)
theorem mul_one (d : D) (n : Nat) (h : n ≤ 1000) (M : Mem) : mulT (.tup [d]) (.int (n : Int)) M = .ok (.tup (List.replicate n d)) M := by
  have h1 : repOk 1 (n : Int) = true := by
    simp only [repOk, Bool.and_eq_true, decide_eq_true_eq, Nat.ble_eq]
    omega
  show (if repOk [d].length (n : Int) = true then _ else _) = _
  rw [show [d].length = 1 from rfl, if_pos h1]
  have : ∀ m : Nat, repD [d] (m : Int) = List.replicate m d := by
    intro m
    unfold repD
    rw [Int.toNat_natCast]
    induction m with
    | zero => rfl
    | succ m ih =>
      first
      | (rw [List.replicate_succ, List.flatten_cons, ih]; rfl)
      | simp_all
  rw [this]
theorem eTup_rep {A : Type} (f : A → D) (n : Nat) (a : A) : eTup f (List.replicate n a) = .tup (List.replicate n (f a)) := by
  unfold eTup
  rw [List.map_replicate]
theorem set_parts {A : Type} (l : List A) (i : Nat) (a : A) (h : i < l.length) : l.take i ++ a :: l.drop (i + 1) = l.set i a := by
  rw [List.set_eq_take_append_cons_drop, if_pos h]
@[simp] theorem noOs_dN (l : List Nat) : D.noObjs (l.map dN) = true := noObjs_map _ (fun _ => rfl) l
@[simp] theorem noOs_ev (l : List Ev) : D.noObjs (l.map eEv) = true := noObjs_map _ noO_ev l
@[simp] theorem noOs_nm (l : List Nm) : D.noObjs (l.map eNm) = true := noObjs_map _ (fun _ => rfl) l
@[simp] theorem itD_eTup {A : Type} (f : A → D) (l : List A) (M : Mem) : itD (eTup f l) M = .ok (l.map f, none) M := (rfl)
@[simp] theorem enumI_eTup {A : Type} (f : A → D) (l : List A) (M : Mem) : enumI [eTup f l] M = .ok (enumD 0 (l.map f), none) M := (rfl)
@[simp] theorem zipI_eTup {A B : Type} (f : A → D) (g : B → D) (l : List A) (m : List B) (M : Mem) : zipI [eTup f l, eTup g m] M = .ok (zipD (l.map f) (m.map g), none) M := (rfl)
@[simp] theorem isiD_eTup {A : Type} (t : Ty) (f : A → D) (l : List A) (M : Mem) : isiD t (eTup f l) M = .ok (.bl (isiB .tuple t)) M := (rfl)
@[simp] theorem isiD_eLn (t : Ty) (l : Ln) (M : Mem) : isiD t (eLn l) M = .ok (.bl (isiB .tuple t)) M := (rfl)
@[simp] theorem isiD_eNm (t : Ty) (l : Nm) (M : Mem) : isiD t (eNm l) M = .ok (.bl (isiB .str t)) M := (rfl)
@[simp] theorem isiD_eSt (t : Ty) (l : St) (M : Mem) : isiD t (eSt l) M = .ok (.bl (isiB .tuple t)) M := (rfl)
@[simp] theorem isiD_eKn (t : Ty) (l : Hs) (M : Mem) : isiD t (eKinds l) M = .ok (.bl (isiB .tuple t)) M := (rfl)
@[simp] theorem isiD_eWay (t : Ty) (l : Hs) (M : Mem) : isiD t (eWay l) M = .ok (.bl (isiB .tuple t)) M := (rfl)
@[simp] theorem isiD_eRows (t : Ty) (l : List (List Ln)) (M : Mem) : isiD t (eRows l) M = .ok (.bl (isiB .tuple t)) M := (rfl)
@[simp] theorem isiD_eRig (t : Ty) (l : List (List Nm)) (M : Mem) : isiD t (eRights l) M = .ok (.bl (isiB .tuple t)) M := (rfl)
def starL : D → Option (List D)
  | .tup l => some l
  | .lst l => some l
  | _ => none
@[simp] theorem starL_tup (l : List D) : starL (.tup l) = some l := (rfl)
@[simp] theorem starL_lst (l : List D) : starL (.lst l) = some l := (rfl)
@[simp] theorem starL_eTup {A : Type} (f : A → D) (l : List A) : starL (eTup f l) = some (l.map f) := (rfl)
@[simp] theorem ap_star (m : ME) (ms : MA) (F : FT) (r : EV) (M : Mem) : mStar m ms F r M = (m F r M).bind fun d M1 => match starL d with | some l => (ms F r M1).bind fun ds M2 => .ok (l ++ ds) M2 | none => .bad := by
  unfold mStar
  congr 1
  funext d M1
  cases d with
  | tup l => rfl
  | lst l => rfl
  | obj i =>
    show (match seqD M1 (.obj i) with | some l => .bad | none => .bad : Res (List D)) = .bad
    split <;> rfl
  | _ => rfl
/-! ### the least of pairs -/
def ltP (a b c d : Int) : Bool := !BF.lle [c, d] [a, b]
def leastP (key : Nat → Int) (l : List Nat) (a : Nat) : Nat := l.foldl (fun a y => if ltP (key y) y (key a) a = true then y else a) a
def pairD (key : Nat → Int) (p : Nat) : D := .tup [.int (key p), dN p]
theorem lt_pr (key : Nat → Int) (p q : Nat) : ltDD (pairD key p) (pairD key q) = ltP (key p) p (key q) q := dlt_ints [key p, (p : Int)] [key q, (q : Int)]
theorem minL_pr (key : Nat → Int) : ∀ (l : List Nat) (a : Nat), minL (pairD key a) (l.map (pairD key)) = pairD key (leastP key l a)
  | [], a => rfl
  | y :: l, a => by
    have ih := minL_pr key l (if ltP (key y) y (key a) a = true then y else a)
    simp only [minL, leastP, List.map_cons, List.foldl_cons, lt_pr] at ih ⊢
    rw [← ih]
    congr 1
    split <;> rfl
theorem leastP_mem (key : Nat → Int) : ∀ (l : List Nat) (a : Nat), leastP key l a ∈ a :: l
  | [], a => List.mem_cons_self
  | y :: l, a => by
    have ih := leastP_mem key l (if ltP (key y) y (key a) a = true then y else a)
    simp only [leastP, List.foldl_cons] at ih ⊢
    rcases List.mem_cons.mp ih with h | h
    · rw [h]; split <;> simp
    · exact List.mem_cons_of_mem _ (List.mem_cons_of_mem _ h)
theorem ord_pr (key : Nat → Int) (l : List Nat) : ordL (l.map (pairD key)) = true := by
  have h1 : D.noObjs (l.map (pairD key)) = true := noObjs_map _ (fun _ => rfl) l
  have h2 : alkD (l.map (pairD key)) = true := by
    unfold alkD
    rw [toPs_map]
    simp only [List.all_eq_true, List.mem_map]
    rintro x ⟨a, _, rfl⟩ y ⟨b, _, rfl⟩
    simp [pairD, D.toP, D.toPs, PySem.W.alike, PySem.W.alikeAll]
  have h3 : ((l.map (pairD key)).all D.noN) = true := by
    simp only [List.all_eq_true, List.mem_map]
    rintro x ⟨a, _, rfl⟩
    rfl
  have h4 : PyData.depthAll (D.toPs (l.map (pairD key))) ≤ 60 := by
    rw [toPs_map]
    exact Nat.le_trans (depth_map _ 1 (fun a => by simp [pairD, D.toP, D.toPs, PyData.depth, PyData.depthAll]) l) (by decide)
  simp only [ordL, h1, h2, h3, Nat.ble_eq.mpr h4, Bool.and_self]
theorem min_pr (key : Nat → Int) (a : Nat) (l : List Nat) (M : Mem) : minLD [.lst ((a :: l).map (pairD key))] M = .ok (pairD key (leastP key l a)) M := by
  have h := ord_pr key (a :: l)
  rw [← minL_pr]
  simp only [List.map_cons] at h
  simp only [minLD, List.map_cons, lstD_lst, h, if_true]
end HT

set_option maxHeartbeats 4000000
namespace HT
open PySem RI
open L2 hiding St
/-! ### what the program computes, plainly -/
def many (H : Hs) : Nat := H.rows.length
def wantsH (H : Hs) (s : St) (p : Nat) : Option Nat := match lineOf H s p with
  | some (.take b) => if rightOk s p (.take b) = true then (s.owners[dB b]?).join else none
  | _ => none
/-- one program's turn of lending -/
def lend1 (H : Hs) (s : St) (ranks : List Nat) (p : Nat) : List Nat := match wantsH H s p with
  | some o => ranks.zipIdx.map fun q => if q.2 = o then min q.1 (ranks[p]?.getD 0) else q.1
  | none => ranks
def lendR (H : Hs) (s : St) (ranks : List Nat) : List Nat := (List.range (many H)).foldl (lend1 H s) ranks
def lentR (H : Hs) (s : St) : List Nat := (List.range (many H)).foldl (fun r _ => lendR H s r) (List.range (many H))
def able (H : Hs) (s : St) : List Nat := (List.range (many H)).filter (can H s)
def ringK (H : Hs) (s : St) (p : Nat) : Int := ((p : Int) - s.turn - 1) % (many H : Int)
def rankK (H : Hs) (s : St) (p : Nat) : Int := (((if H.ord = .lent then lentR H s else List.range (many H))[p]?.getD 0 : Nat) : Int)
def letK (H : Hs) (s : St) : Nat → Int := if H.ord = .ring then ringK H s else rankK H s
def lets (H : Hs) (s : St) : List Nat := match able H s with
  | [] => []
  | a :: l => if H.ord = .any then a :: l else [leastP (letK H s) l a]
theorem lend1_len (H : Hs) (s : St) (r : List Nat) (p : Nat) : (lend1 H s r p).length = r.length := by
  unfold lend1
  split <;> simp
theorem foldl_len {A : Type} {f : List Nat → A → List Nat} (h : ∀ r a, (f r a).length = r.length) : ∀ (l : List A) (r : List Nat), (l.foldl f r).length = r.length
  | [], r => rfl
  | a :: l, r => by rw [List.foldl_cons, foldl_len h l, h]
theorem lendR_len (H : Hs) (s : St) (r : List Nat) : (lendR H s r).length = r.length := foldl_len (lend1_len H s) _ _
theorem lentR_len (H : Hs) (s : St) : (lentR H s).length = many H := by
  unfold lentR
  rw [foldl_len (fun r _ => lendR_len H s r), List.length_range]
theorem lets_able {H : Hs} {s : St} {p : Nat} (h : p ∈ lets H s) : p ∈ able H s := by
  unfold lets at h
  cases e : able H s with
  | nil => rw [e] at h; cases h
  | cons a l =>
    rw [e] at h
    simp only at h
    split at h
    · exact h
    · rw [List.mem_singleton] at h
      rw [h]
      exact leastP_mem _ l a
theorem able_mem {H : Hs} {s : St} {p : Nat} : p ∈ able H s ↔ p < many H ∧ can H s p = true := by simp [able]
/-! a step -/
def numH (s : St) (p : Nat) : Nat := s.numbers[p]?.getD 0
def ownAt (s : St) (p : Nat) : Ln → Nat
  | .set v => v
  | .add v => (numH s p + v) % 4
  | .get b => s.cells[dB b]?.getD 0
  | .read b => s.blocks[dB b]?.getD 0
  | .hear b => (s.pipes[dB b]?.getD []).headD 0
  | _ => numH s p
def leNm (a b : Nm) : Bool := leDD (eNm a) (eNm b)
/-- a right beside others -/
def insN (n : Nm) (r : List Nm) : List Nm := (if n ∈ r then r else r ++ [n]).mergeSort leNm
def eff (s : St) (p : Nat) : Ln → St
  | .hear b => { s with pipes := s.pipes.set (dB b) ((s.pipes[dB b]?.getD []).drop 1) }
  | .put b => { s with cells := s.cells.set (dB b) (numH s p) }
  | .take b => { s with owners := s.owners.set (dB b) (some p) }
  | .free b => { s with owners := s.owners.set (dB b) none }
  | .send b => { s with pipes := s.pipes.set (dB b) ((s.pipes[dB b]?.getD []) ++ [numH s p]) }
  | .wake b => { s with signals := s.signals.set (dB b) true }
  | .wait b => { s with signals := s.signals.set (dB b) false }
  | .note b => { s with blocks := s.blocks.set (dB b) (numH s p), buffer := s.buffer ++ [.note p b (numH s p)] }
  | .mark => { s with buffer := s.buffer ++ [.mark p] }
  | .keep => { s with log := s.log ++ s.buffer, buffer := [] }
  | .hand q n => { s with rights := s.rights.set q (insN n (s.rights[q]?.getD [])) }
  | _ => s
def after (s : St) (p : Nat) (l : Ln) : St := { eff s p l with numbers := s.numbers.set p (ownAt s p l) }
def nextP (H : Hs) (s : St) (p : Nat) : Ln → Nat
  | .go j => j
  | .zero j => if numH s p = 0 then j else (s.places[p]?.getD 0) + 1
  | .stop => (H.rows[p]?.getD []).length
  | _ => (s.places[p]?.getD 0) + 1
def goP (H : Hs) (s : St) (p : Nat) (l : Ln) : St := { after s p l with places := s.places.set p (nextP H s p l), turn := (p : Int) }
/-! a cut -/
def Ev.by : Ev → Nat
  | .note p _ _ => p
  | .mark p => p
def markFor (H : Hs) (p : Nat) : Ev → Bool
  | .mark q => H.all || decide (q = p)
  | _ => false
/-- the notes that a mending settles -/
def settledE (H : Hs) : List Ev → List Ev
  | [] => []
  | .note p b v :: l => if l.any (markFor H p) = true then .note p b v :: settledE H l else settledE H l
  | .mark _ :: l => settledE H l
def putE (l : List Nat) : Ev → List Nat
  | .note _ b v => l.set (dB b) v
  | .mark _ => l
def mend (H : Hs) (blocks : List Nat) (log : List Ev) : List Nat := (settledE H log).foldl putE blocks
def Ev.isMark : Ev → Bool
  | .mark _ => true
  | _ => false
def isSet (H : Hs) (log : List Ev) (q : Ev × Nat) : Bool := match q.1 with
  | .note p _ _ => (log.drop (q.2 + 1)).any (markFor H p)
  | .mark _ => false
theorem settled_fold (H : Hs) (log : List Ev) : ∀ (l : List Ev) (k : Nat) (acc : List Ev), log.drop k = l → (l.zipIdx k).foldl (fun a q => if isSet H log q = true then a ++ [q.1] else a) acc = acc ++ settledE H l
  | [], k, acc, _ => by simp [settledE]
  | e :: l, k, acc, h => by
    have h1 : log.drop (k + 1) = l := by
      rw [← List.drop_drop, h]
      rfl
    rw [List.zipIdx_cons, List.foldl_cons, settled_fold H log l (k + 1) _ h1]
    cases e with
    | note p b v =>
      simp only [isSet, h1, settledE]
      split <;> simp
    | mark p => simp [isSet, settledE]
theorem settledE_sub {H : Hs} : ∀ {l : List Ev} {e : Ev}, e ∈ settledE H l → e ∈ l
  | [], e, h => by cases h
  | .note p b v :: l, e, h => by
    simp only [settledE] at h
    split at h
    · rcases List.mem_cons.mp h with h | h
      · exact h ▸ List.mem_cons_self
      · exact List.mem_cons_of_mem _ (settledE_sub h)
    · exact List.mem_cons_of_mem _ (settledE_sub h)
  | .mark p :: l, e, h => List.mem_cons_of_mem _ (settledE_sub h)
theorem putE_len (l : List Nat) (e : Ev) : (putE l e).length = l.length := by cases e <;> simp [putE]
theorem mend_len (H : Hs) (blocks : List Nat) (log : List Ev) : (mend H blocks log).length = blocks.length := foldl_len putE_len _ _
def begun (H : Hs) (blocks : List Nat) : St where
  places := List.replicate (many H) 0
  numbers := List.replicate (many H) 0
  cells := List.replicate H.kc 0
  owners := List.replicate H.kl none
  pipes := List.replicate H.kp.length []
  signals := List.replicate H.ks false
  blocks := blocks
  disk := blocks
  buffer := []
  log := []
  rights := H.given
  turn := -1
inductive Stp where
  | go (p : Nat) | cut (m : Nat)
  deriving DecidableEq
def eSp : Stp → D
  | .go p => dN p
  | .cut m => .tup [.str [99, 117, 116], dN m]
def goS (H : Hs) (s : St) : Stp → St
  | .go p => match lineOf H s p with
    | some l => goP H s p l
    | none => s
  | .cut m => begun H (mend H s.disk (s.log ++ s.buffer.take m))
def stepsH (H : Hs) (s : St) : List Stp := (lets H s).map .go ++ (List.range (s.buffer.length + 1)).map .cut
def okSp (H : Hs) (s : St) : Stp → Bool
  | .go p => decide (p ∈ lets H s)
  | .cut m => decide (m ≤ s.buffer.length)
/-! standings that come -/
structure Good (H : Hs) (s : St) : Prop extends Wf H s where
  few : s.log.length + s.buffer.length ≤ 1000000
  nodup : ∀ r ∈ s.rights, r.Nodup
  kinds : ∀ r ∈ s.rights, ∀ n ∈ r, hasK H n = true
  notes : ∀ e ∈ s.log ++ s.buffer, match e with
    | .note p b _ => p < many H ∧ dB b < H.kf
    | .mark p => p < many H
end HT
namespace HT
open PySem RI
open L2 hiding St
/-! ### why a program waits -/
inductive Why where
  | right (n : Nm) | lock (n : Nm) (o : Option Nat) | free (n : Nm) | full (n : Nm) | empty (n : Nm) | signal (n : Nm)
  deriving DecidableEq
def eWhy : Why → D
  | .right n => .tup [.str [114, 105, 103, 104, 116], eNm n]
  | .lock n o => .tup [.str [108, 111, 99, 107], eNm n, dO dN o]
  | .free n => .tup [.str [102, 114, 101, 101], eNm n]
  | .full n => .tup [.str [102, 117, 108, 108], eNm n]
  | .empty n => .tup [.str [101, 109, 112, 116, 121], eNm n]
  | .signal n => .tup [.str [115, 105, 103, 110, 97, 108], eNm n]
def whyL (H : Hs) (s : St) (p : Nat) : Ln → Option Why
  | .take b => some (.lock ⟨.k, b⟩ (s.owners[dB b]?).join)
  | .free b => some (.free ⟨.k, b⟩)
  | .send b => some (.full ⟨.p, b⟩)
  | .hear b => some (.empty ⟨.p, b⟩)
  | .wait b => some (.signal ⟨.s, b⟩)
  | _ => none
def whyH (H : Hs) (s : St) (p : Nat) : Option Why := match lineOf H s p with
  | none => none
  | some l => if can H s p = true then none else if rightOk s p l = true then whyL H s p l else l.thing.map .right
theorem why_can {H : Hs} {s : St} {p : Nat} (h : can H s p = true) : whyH H s p = none := by
  unfold whyH
  split
  · rfl
  · rw [if_pos h]
end HT

set_option maxHeartbeats 4000000
namespace K76
open PySem RI HT
open L2 hiding St
theorem wants (n : Nat) (H : Hs) (ho : HOk H) (s : St) (wf : Wf H s) (p : Nat) (hp : p < H.rows.length) (M : Mem) : callF tb (n + 2) 21 [eHs H, eSt s, dN p] M = .ok (dO dN (wantsH H s p)) M := by
  rw [u_21]
  have hl := fun M => line_of n H s p hp wf.places M
  have ht := fun l M => thing_of n l M
  obtain ⟨rt, hr⟩ := some_at (l := s.rights) (i := p) (by rw [wf.rights]; exact hp)
  cases el : lineOf H s p with
  | none =>
    rw [el] at hl
    simp [b_21, hl, wantsH, el]
  | some l =>
    rw [el] at hl
    obtain ⟨k, hk⟩ := lineOf_ok ho el
    cases l with
    | take b =>
      have hb : dB b < s.owners.length := by rw [wf.owners]; simpa [lnOk, Ln.thing, hasK] using hk
      obtain ⟨o, eo⟩ := some_at hb
      by_cases hm : (⟨.k, b⟩ : Nm) ∈ rt
      · cases o <;> simp [b_21, hl, ht, wantsH, el, Ln.thing, Ln.word, Ln.rest, eq_words, okW, hr, rightOk, hm, eo]
      · simp [b_21, hl, ht, wantsH, el, Ln.thing, Ln.word, Ln.rest, eq_words, okW, hr, rightOk, hm, eo]
    | _ => simp [b_21, hl, wantsH, el, Ln.word, eq_words, okW]
theorem wants_lt {H : Hs} {s : St} (wf : Wf H s) {p o : Nat} (h : wantsH H s p = some o) : o < H.rows.length := by
  unfold wantsH at h
  split at h
  · split at h
    · rename_i b _ _
      cases e : s.owners[dB b]? with
      | none => rw [e] at h; cases h
      | some q =>
        rw [e] at h
        exact wf.own q (List.mem_of_getElem? e) o h
    · cases h
  · cases h
def lentI (H : Hs) (s : St) (r : List Nat) (R : EV) (M : Mem) (M0 : Mem) : Prop := M = M0 ∧ r.length = many H ∧ R.length = 8 ∧ R[0]? = some (some (eHs H)) ∧ R[1]? = some (some (eSt s)) ∧ R[2]? = some (some (.lst (r.map dN)))
theorem ev8 {R : EV} (h : R.length = 8) : ∃ a b c d e f g i, R = [a, b, c, d, e, f, g, i] := by
  match R, h with
  | [a, b, c, d, e, f, g, i], _ => exact ⟨a, b, c, d, e, f, g, i, rfl⟩
theorem lenRows (H : Hs) (M : Mem) : lenX [eRows H.rows] M = .ok (dN (many H)) M := len_eTup _ _ _
@[simp] theorem rngOk_nat {n : Nat} (h : n ≤ 1000) : rngOk (n : Int) = true := by
  simp only [rngOk]
  simp
  omega
@[simp] theorem ixL {A : Type} (f : A → D) (l : List A) (n : Nat) (M : Mem) : ixD (.lst (l.map f)) (.int (n : Int)) M = okO M f l[n]? := by
  rw [ix_seq (l := l.map f) rfl, at_natO, List.getElem?_map]
  cases l[n]? <;> rfl
@[simp] theorem min_nat (a b : Nat) (M : Mem) : min2D [dN a, dN b] M = .ok (dN (min a b)) M := by
  simp only [min2D]
  by_cases h : b < a
  · simp [h, Nat.min_eq_right (Nat.le_of_lt h)]
  · simp [h, Nat.min_eq_left (Nat.le_of_not_lt h)]
end K76

set_option maxHeartbeats 4000000
namespace K76
open PySem RI HT
open L2 hiding St
theorem foldS_inr {S A : Type} (f : S → A → S) : ∀ (l : List A) (s : S), foldS (R := Empty) (fun s a => .inr (f s a)) s l = .inr (l.foldl f s)
  | [], s => rfl
  | a :: l, s => by simp only [foldS, List.foldl_cons]; exact foldS_inr f l (f s a)
theorem lend_lc (F : FT) (a b d e f g i : Option D) (r : List Nat) (p o x : Nat) (hx : r[p]? = some x) (M : Mem) :
    lcG none lg_22_0 lt_22_0 le_22_0 F [a, b, some (.lst (r.map dN)), d, some (dN p), some (dN o), f, g] (enumD 0 (r.map dN)) M
      = .ok (r.zipIdx.map (dN ∘ fun q => if q.2 = o then min q.1 x else q.1)) M := by
  rw [enum_map]
  have := lc_all (gd := none) (g := lg_22_0) (me := le_22_0) (F := F) (r := [a, b, some (.lst (r.map dN)), d, some (dN p), some (dN o), f, g]) (enc := fun q : Nat × Nat => .tup [dN q.2, dN q.1]) (M := M) rfl (dN ∘ fun q : Nat × Nat => if q.2 = o then min q.1 x else q.1) r.zipIdx fun q _ => by
    refine ⟨[a, b, some (.lst (r.map dN)), d, some (dN p), some (dN o), some (dN q.2), some (dN q.1)], by simp [lg_22_0], ?_⟩
    by_cases h : q.2 = o
    · simp [le_22_0, h, hx]
    · have h' : ¬ ((q.2 : Int) = (o : Int)) := by omega
      simp [le_22_0, h, h', hx]
  exact this
theorem lend_turn (n : Nat) (H : Hs) (ho : HOk H) (s : St) (wf : Wf H s) (M0 : Mem) (r : List Nat) (p : Nat) (R : EV) (M : Mem) (hp : p ∈ List.range (many H)) (i : lentI H s r R M M0) :
    TurnOk (R := Empty) (fun r R M => lentI H s r R M M0) (fun _ _ _ => False) ((fg_22_1 (callF tb (n + 2)) (dN p) R M).bind fun r1 M1 => fb_22_1 (callF tb (n + 2)) r1 M1) (.inr (lend1 H s r p)) := by
  obtain ⟨rfl, hr, h8, h0, h1, h2⟩ := i
  obtain ⟨a, b, c, d, e, f, g, i, rfl⟩ := ev8 h8
  simp only [List.getElem?_cons_zero, List.getElem?_cons_succ, Option.some.injEq] at h0 h1 h2
  subst h0 h1 h2
  have hp' : p < many H := List.mem_range.mp hp
  have hw := fun M => wants n H ho s wf p hp' M
  obtain ⟨x, hx⟩ := some_at (l := r) (i := p) (by omega)
  have hm := ho.many
  have hl : r.length ≤ 16777216 := by rw [hr]; unfold many; omega
  cases ew : wantsH H s p with
  | none =>
    rw [ew] at hw
    refine ⟨[some (eHs H), some (eSt s), some (.lst (r.map dN)), d, some (dN p), some .non, g, i], M, .inl (by simp [fg_22_1, fb_22_1, hw]), ?_⟩
    refine ⟨rfl, by rw [lend1_len, hr], rfl, rfl, rfl, ?_⟩
    simp [lend1, ew]
  | some o =>
    rw [ew] at hw
    have hc := lend_lc (callF tb (n + 2)) (some (eHs H)) (some (eSt s)) d none none none none r p o x hx M
    refine ⟨[some (eHs H), some (eSt s), some (.lst ((r.zipIdx.map fun q => if q.2 = o then min q.1 x else q.1).map dN)), d, some (dN p), some (dN o), g, i], M, .inl (by simp [fg_22_1, fb_22_1, hw, wipeE, hc, enumD_len, hl]), ?_⟩
    refine ⟨rfl, by rw [lend1_len, hr], rfl, rfl, rfl, ?_⟩
    simp [lend1, ew, hx]
theorem lent_ranks (n : Nat) (H : Hs) (ho : HOk H) (s : St) (wf : Wf H s) (M : Mem) : callF tb (n + 3) 22 [eHs H, eSt s] M = .ok (.lst ((lentR H s).map dN)) M := by
  rw [u_22]
  have hm := ho.many
  have hm1 : many H ≤ 1000 := by unfold many; omega
  have inner : ∀ (r : List Nat) (a : Nat) (R : EV) (M' : Mem), a ∈ List.range (many H) → lentI H s r R M' M → TurnOk (R := Empty) (fun r R M' => lentI H s r R M' M) (fun _ _ _ => False) ((fg_22_2 (callF tb (n + 2)) (dN a) R M').bind fun r1 M1 => fb_22_2 (callF tb (n + 2)) r1 M1) (.inr (lendR H s r)) := by
    intro r a R M' ha i
    obtain ⟨rfl, hr, h8, h0, h1, h2⟩ := i
    obtain ⟨a0, b, c, d, e, f, g, i, rfl⟩ := ev8 h8
    simp only [List.getElem?_cons_zero, List.getElem?_cons_succ, Option.some.injEq] at h0 h1 h2
    subst h0 h1 h2
    have h := for_ok (gd := none) (g := fg_22_1) (b := fb_22_1) (F := callF tb (n + 2)) (enc := dN) (fun r R M1 => lentI H s r R M1 M') (fun (_ : Empty) _ _ => False) (fun r p => .inr (lend1 H s r p)) (fun _ _ _ _ => rfl) (List.range (many H)) (fun r p R M1 hp i => lend_turn n H ho s wf M' r p R M1 hp i) r [some (eHs H), some (eSt s), some (.lst (r.map dN)), some (dN a), e, f, g, i] M' ⟨rfl, hr, rfl, rfl, rfl, rfl⟩
    rw [foldS_inr] at h
    have e : (fg_22_2 (callF tb (n + 2)) (dN a) [some (eHs H), some (eSt s), some (.lst (r.map dN)), d, e, f, g, i] M').bind (fun r1 M1 => fb_22_2 (callF tb (n + 2)) r1 M1) = forG none fg_22_1 fb_22_1 (callF tb (n + 2)) ((List.range (many H)).map dN) [some (eHs H), some (eSt s), some (.lst (r.map dN)), some (dN a), e, f, g, i] M' := by
      simp [fg_22_2, fb_22_2, fld_eq, lenRows, hm1, rng0]
    rw [e]
    exact h.turn
  have h := for_ok (gd := none) (g := fg_22_2) (b := fb_22_2) (F := callF tb (n + 2)) (enc := dN) (fun r R M1 => lentI H s r R M1 M) (fun (_ : Empty) _ _ => False) (fun r _ => .inr (lendR H s r)) (fun _ _ _ _ => rfl) (List.range (many H)) (fun r p R M1 hp i => inner r p R M1 hp i) (List.range (many H)) [some (eHs H), some (eSt s), some (.lst ((List.range (many H)).map dN)), none, none, none, none, none] M ⟨rfl, List.length_range, rfl, rfl, rfl, rfl⟩
  rw [foldS_inr] at h
  obtain ⟨R', M', e, rfl, hr, h8, h0, h1, h2⟩ := h
  obtain ⟨a0, b, c, d, e1, f, g, i, rfl⟩ := ev8 h8
  simp only [List.getElem?_cons_zero, List.getElem?_cons_succ, Option.some.injEq] at h0 h1 h2
  subst h0 h1 h2
  have hz : decide ((many H : Int) ≤ 1000000) = true := by rw [decide_eq_true_eq]; omega
  simp [b_22, fld_eq, lenRows, hz, rg0, e]
  have hm2 : (many H : Int) ≤ 1000000 := by omega
  simp [hm2, e, lentR]
end K76

set_option maxHeartbeats 4000000
namespace K76
open PySem RI HT
open L2 hiding St
@[simp] theorem eq_lnil (n : Bool) (l : List Nat) (M : Mem) : eqD n (.lst (l.map dN)) (.lst []) M = .ok (.bl (if n then !l.isEmpty else l.isEmpty)) M := by
  have e : (l.map dN) = (l.map (fun i : Nat => (i : Int))).map D.int := by rw [List.map_map]; rfl
  rw [e, eq_nil nice_int]
  cases l <;> rfl
@[simp] theorem eq_lnil0 (n : Bool) (M : Mem) : eqD n (.lst []) (.lst []) M = .ok (.bl (!n)) M := by
  have := eq_lnil n [] M
  cases n <;> exact this
@[simp] theorem eq_lnil1 (n : Bool) (a : Nat) (l : List Nat) (M : Mem) : eqD n (.lst (dN a :: l.map dN)) (.lst []) M = .ok (.bl n) M := by
  have := eq_lnil n (a :: l) M
  cases n <;> exact this
theorem okW_ord (o : Od) : okW o.txt = true := by cases o <;> decide
theorem eq_ord (o : Od) (t : List Nat) (n : Bool) (M : Mem) (h : okW t = true) : eqD n (.str o.txt) (.str t) M = .ok (.bl (if n then !decide (o.txt = t) else decide (o.txt = t))) M := eq_words _ _ (okW_ord o) h n M
@[simp] theorem ix_pr (key : Nat → Int) (p : Nat) (M : Mem) : ixD (pairD key p) (.int 1) M = .ok (dN p) M := ix_tup1
theorem lets_lc0 (n : Nat) (H : Hs) (ho : HOk H) (s : St) (wf : Wf H s) (M : Mem) (c d e f g : Option D) : lcG none lg_23_0 lt_23_0 le_23_0 (callF tb (n + 2)) [some (eHs H), some (eSt s), c, d, e, f, g] ((List.range (many H)).map dN) M = .ok ((able H s).map dN) M :=
  lc_ok (gd := none) (g := lg_23_0) (mt := lt_23_0) (me := le_23_0) (F := callF tb (n + 2)) (r := [some (eHs H), some (eSt s), c, d, e, f, g]) (enc := dN) (M := M) rfl (can H s) dN (List.range (many H)) fun p hp => by
    have hp' : p < many H := List.mem_range.mp hp
    exact ⟨[some (eHs H), some (eSt s), c, d, e, f, some (dN p)], by simp [lg_23_0], by simp [lt_23_0, can_step n H ho s wf p hp', truD], fun _ => by simp [le_23_0]⟩
theorem lets_lc1 (F : FT) (H : Hs) (ho : HOk H) (s : St) (M : Mem) (d e f g : Option D) (l : List Nat) : lcG none lg_23_1 mYes le_23_1 F [some (eHs H), some (eSt s), some (dN (many H)), d, e, f, g] (l.map dN) M = .ok (l.map (pairD (ringK H s))) M := by
  have hm := ho.many
  have hm1 : 0 < many H := by unfold many; omega
  exact lc_all (gd := none) (g := lg_23_1) (me := le_23_1) (F := F) (r := [some (eHs H), some (eSt s), some (dN (many H)), d, e, f, g]) (enc := dN) (M := M) rfl (pairD (ringK H s)) l fun p hp => by
    exact ⟨[some (eHs H), some (eSt s), some (dN (many H)), d, e, f, some (dN p)], by simp [lg_23_1], by simp [le_23_1, pairD, ringK, hm1]⟩
theorem lets_lc2 (F : FT) (key : Nat → Int) (M : Mem) (a b c d e g : Option D) (rk : List Nat) (l : List Nat) (h : ∀ p ∈ l, (rk[p]?).map (fun x : Nat => (x : Int)) = some (key p)) : lcG none lg_23_2 mYes le_23_2 F [a, b, c, d, e, some (.lst (rk.map dN)), g] (l.map dN) M = .ok (l.map (pairD key)) M := by
  exact lc_all (gd := none) (g := lg_23_2) (me := le_23_2) (F := F) (r := [a, b, c, d, e, some (.lst (rk.map dN)), g]) (enc := dN) (M := M) rfl (pairD key) l fun p hp => by
    refine ⟨[a, b, c, d, e, some (.lst (rk.map dN)), some (dN p)], by simp [lg_23_2], ?_⟩
    have h1 := h p hp
    cases e1 : rk[p]? with
    | none => rw [e1] at h1; cases h1
    | some x =>
      rw [e1] at h1
      simp only [Option.map_some, Option.some.injEq] at h1
      simp [le_23_2, pairD, e1, h1]
theorem programs_let (n : Nat) (H : Hs) (ho : HOk H) (s : St) (wf : Wf H s) (M : Mem) : callF tb (n + 4) 23 [eHs H, eSt s] M = .ok (.lst ((lets H s).map dN)) M := by
  rw [u_23]
  have hm := ho.many
  have hm1 : many H ≤ 1000 := by unfold many; omega
  have hm2 : many H ≤ 16777216 := by omega
  have hm3 : (many H : Int) ≤ 1000000 := by omega
  have h0 := fun c d e f g => lets_lc0 (n + 1) H ho s wf M c d e f g
  have hle : (able H s).length ≤ 16777216 := by
    have : (able H s).length ≤ many H := by
      unfold able
      have := List.length_filter_le (can H s) (List.range (many H))
      rw [List.length_range] at this
      exact this
    omega
  have hab : ∀ p ∈ able H s, p < many H := fun p hp => (able_mem.mp hp).1
  have hlen := lent_ranks n H ho s wf M
  cases ea : able H s with
  | nil =>
    rw [ea] at h0
    simp [b_23, fld_eq, lenRows, hm1, hm2, rng0, rng_len, wipeE, h0, lets, ea]
  | cons a l =>
    rw [ea] at h0 hle hab
    have hl1 : l.length + 1 ≤ 16777216 := hle
    have hring := fun (d e f g : Option D) => lets_lc1 (callF tb (n + 3)) H ho s M d e f g (a :: l)
    have hrank := fun (key : Nat → Int) (A B C E G : Option D) (rk : List Nat) h => lets_lc2 (callF tb (n + 3)) key M A B C E G none rk (a :: l) h
    have hk0 : ∀ p ∈ a :: l, (((List.range (many H))[p]?).map (fun x : Nat => (x : Int))) = some ((p : Nat) : Int) := by
      intro p hp
      rw [List.getElem?_range (hab p hp)]
      rfl
    have hk1 : ∀ p ∈ a :: l, (((lentR H s)[p]?).map (fun x : Nat => (x : Int))) = some (((lentR H s)[p]?.getD 0 : Nat) : Int) := by
      intro p hp
      rw [List.getElem?_eq_getElem (by rw [lentR_len]; exact hab p hp)]
      rfl
    cases eo : H.ord with
    | any => simp [b_23, fld_eq, lenRows, hm1, hm2, rng0, rng_len, wipeE, h0, lets, ea, eo, eq_words, okW, Od.txt]
    | ring =>
      have hmin := min_pr (ringK H s) a l M
      simp only [List.map_cons] at hring hmin
      simp [b_23, fld_eq, lenRows, hm1, hm2, rng0, rng_len, wipeE, h0, lets, ea, eo, eq_words, okW, Od.txt, hl1, lt_23_1, hring, hmin, letK]
    | rank =>
      have hmin := min_pr (rankK H s) a l M
      have hr := fun A B C E G => hrank (rankK H s) A B C E G (List.range (many H)) (fun p hp => by rw [hk0 p hp]; simp only [rankK, eo, reduceCtorEq, if_false]; rw [List.getElem?_range (hab p hp)]; rfl)
      simp only [List.map_cons] at hr hmin
      simp [b_23, fld_eq, lenRows, hm1, hm2, hm3, rg0, rng0, rng_len, wipeE, h0, lets, ea, eo, eq_words, okW, Od.txt, hl1, lt_23_2, hr, hmin, letK]
    | lent =>
      have hmin := min_pr (rankK H s) a l M
      have hr := fun A B C E G => hrank (rankK H s) A B C E G (lentR H s) (fun p hp => by rw [hk1 p hp]; simp only [rankK, eo, if_true])
      simp only [List.map_cons] at hr hmin
      simp [b_23, fld_eq, lenRows, hm1, hm2, hm3, rg0, rng0, rng_len, wipeE, h0, lets, ea, eo, eq_words, okW, Od.txt, hl1, lt_23_2, hr, hmin, letK, hlen]
end K76

set_option maxHeartbeats 4000000
namespace HT
open PySem RI
open L2 hiding St
/-! ### a standing opened -/
def oL (s : St) : List (D × D) := [(.str [112, 108, 97, 99, 101, 115], eTup dN s.places), (.str [110, 117, 109, 98, 101, 114, 115], eTup dN s.numbers), (.str [99, 101, 108, 108, 115], eTup dN s.cells), (.str [111, 119, 110, 101, 114, 115], eTup (dO dN) s.owners), (.str [112, 105, 112, 101, 115], eTup (eTup dN) s.pipes), (.str [115, 105, 103, 110, 97, 108, 115], eTup D.bl s.signals), (.str [98, 108, 111, 99, 107, 115], eTup dN s.blocks), (.str [100, 105, 115, 107], eTup dN s.disk), (.str [98, 117, 102, 102, 101, 114], eTup eEv s.buffer), (.str [108, 111, 103], eTup eEv s.log), (.str [114, 105, 103, 104, 116, 115], eTup (eTup eNm) s.rights), (.str [116, 117, 114, 110], D.int s.turn)]
def oO (s : St) : MO := .dks false (oL s)
def fN : List D := [(.str [112, 108, 97, 99, 101, 115]), (.str [110, 117, 109, 98, 101, 114, 115]), (.str [99, 101, 108, 108, 115]), (.str [111, 119, 110, 101, 114, 115]), (.str [112, 105, 112, 101, 115]), (.str [115, 105, 103, 110, 97, 108, 115]), (.str [98, 108, 111, 99, 107, 115]), (.str [100, 105, 115, 107]), (.str [98, 117, 102, 102, 101, 114]), (.str [108, 111, 103]), (.str [114, 105, 103, 104, 116, 115]), (.str [116, 117, 114, 110])]
@[simp] theorem get_end (M X : Mem) (o : MO) : (M ++ o :: X)[M.length]? = some o := by simp
@[simp] theorem dct_end (M X : Mem) (s : St) : dctD (M ++ oO s :: X) (.obj M.length) = none := by simp only [dctD, get_end]; rfl
@[simp] theorem dks_end (M X : Mem) (s : St) : dksD (M ++ oO s :: X) (.obj M.length) = some (oL s) := by simp only [dksD, get_end]; rfl
@[simp] theorem wct_end (M X : Mem) (s : St) : wctD (M ++ oO s :: X) (.obj M.length) = none := by simp only [wctD, get_end]; rfl
@[simp] theorem wks_end (M X : Mem) (s : St) : wksD (M ++ oO s :: X) (.obj M.length) = some (oL s) := by simp only [wksD, get_end]; rfl
theorem set_end (M X : Mem) (o o' : MO) : (M ++ o :: X).set M.length o' = M ++ o' :: X := by simp
theorem get_fld {M X : Mem} {s : St} {t : List Nat} {k : L2.Key} {d : D} (hk : D.key1 (.str t) = some k) (h : dkget k (oL s) = some d) : ixD (.obj M.length) (.str t) (M ++ oO s :: X) = .ok d (M ++ oO s :: X) := by
  simp only [ixD, dct_end, dks_end, ixKs, hk, h]
theorem set_fld {M X : Mem} {s s' : St} {t : List Nat} {k : L2.Key} {d : D} (hk : D.key1 (.str t) = some k) (h : dkset k (.str t) d (oL s) = oL s') (hd : D.noObj d = true) : setD (.obj M.length) (.str t) d (M ++ oO s :: X) = .ok () (M ++ oO s' :: X) := by
  have h1 : (oL s).length = 12 := rfl
  simp only [setD, wct_end, wks_end, setKs, hk, h, bel_pure _ _ hd, h1, Nat.ble, Bool.true_and, if_true, set_end]
  rfl
@[simp] theorem fin_end {M X : Mem} {o : MO} {d : D} (h : D.noObj d = true) : fin false (M.length + 1) d (M ++ o :: X) = .ok d (M ++ [o]) := by
  unfold fin
  rw [frz_pure _ d h, bel_pure _ d h]
  have : (M ++ o :: X).take (M.length + 1) = M ++ [o] := by
    rw [show M ++ o :: X = (M ++ [o]) ++ X from by simp]
    exact List.take_left' (by simp)
  rw [this]
  rfl
theorem key1_inj (s t : List Nat) : (D.key1 (.str s) = D.key1 (.str t)) ↔ s = t := by
  show (some (Sum.inr (Str.mk s.toArray)) = some (Sum.inr (Str.mk t.toArray)) : Prop) ↔ _
  constructor
  · intro h
    injection h with h
    injection h with h
    injection h with h
    simpa using h
  · rintro rfl; rfl
def txD (q : List Nat × D) : D × D := (.str q.1, q.2)
theorem mergeD_new : ∀ (ks : List (List Nat)) (vs : List D) (acc : List (List Nat × D)), ks.length = vs.length → (∀ t ∈ ks, t ∉ acc.map (·.1)) → ks.Nodup → mergeD (acc.map txD) (ks.map .str) vs = some ((acc ++ ks.zip vs).map txD)
  | [], [], acc, _, _, _ => by simp [mergeD]
  | [], _ :: _, _, h, _, _ => by simp at h
  | _ :: _, [], _, h, _, _ => by simp at h
  | k :: ks, v :: vs, acc, h, hn, hd => by
    have h1 : ((acc.map txD).any fun p => decide (D.key1 p.1 = D.key1 (.str k))) = false := by
      rw [Bool.eq_false_iff]
      intro h2
      simp only [List.any_map, List.any_eq_true, Function.comp, txD, decide_eq_true_eq, key1_inj] at h2
      obtain ⟨q, hq, e⟩ := h2
      exact hn k List.mem_cons_self (List.mem_map.mpr ⟨q, hq, e⟩)
    have ih := mergeD_new ks vs (acc ++ [(k, v)]) (by simpa using h) (by
      intro t ht hm
      rw [List.map_append, List.mem_append] at hm
      rcases hm with hm | hm
      · exact hn t (List.mem_cons_of_mem _ ht) hm
      · simp only [List.map_cons, List.map_nil, List.mem_singleton] at hm
        exact (List.nodup_cons.mp hd).1 (hm ▸ ht)) (List.nodup_cons.mp hd).2
    rw [List.map_cons, show mergeD (acc.map txD) (.str k :: ks.map .str) (v :: vs) = mergeD (dkset (.inr ⟨k.toArray⟩) (.str k) v (acc.map txD)) (ks.map .str) vs from rfl]
    have h3 : dkset (.inr ⟨k.toArray⟩) (.str k) v (acc.map txD) = (acc ++ [(k, v)]).map txD := by
      unfold dkset
      rw [show (some (Sum.inr (Str.mk k.toArray)) : Option L2.Key) = D.key1 (.str k) from rfl, h1, if_neg (by decide), List.map_append]
      rfl
    rw [h3, ih, List.append_assoc]
    rfl
def fNm : List (List Nat) := [[112, 108, 97, 99, 101, 115], [110, 117, 109, 98, 101, 114, 115], [99, 101, 108, 108, 115], [111, 119, 110, 101, 114, 115], [112, 105, 112, 101, 115], [115, 105, 103, 110, 97, 108, 115], [98, 108, 111, 99, 107, 115], [100, 105, 115, 107], [98, 117, 102, 102, 101, 114], [108, 111, 103], [114, 105, 103, 104, 116, 115], [116, 117, 114, 110]]
theorem merge_st (s : St) : mergeD [] fN (fSt s) = some (oL s) :=
  mergeD_new fNm (fSt s) [] rfl (by simp) (by decide)
@[simp] theorem gf_places (M X : Mem) (s : St) : ixD (.obj M.length) (.str [112, 108, 97, 99, 101, 115]) (M ++ oO s :: X) = .ok (eTup dN s.places) (M ++ oO s :: X) := get_fld rfl rfl
@[simp] theorem sf_places (M X : Mem) (s : St) (x : List Nat) : setD (.obj M.length) (.str [112, 108, 97, 99, 101, 115]) (eTup dN x) (M ++ oO s :: X) = .ok () (M ++ oO { s with places := x } :: X) := set_fld rfl rfl (by simp)
@[simp] theorem gf_numbers (M X : Mem) (s : St) : ixD (.obj M.length) (.str [110, 117, 109, 98, 101, 114, 115]) (M ++ oO s :: X) = .ok (eTup dN s.numbers) (M ++ oO s :: X) := get_fld rfl rfl
@[simp] theorem sf_numbers (M X : Mem) (s : St) (x : List Nat) : setD (.obj M.length) (.str [110, 117, 109, 98, 101, 114, 115]) (eTup dN x) (M ++ oO s :: X) = .ok () (M ++ oO { s with numbers := x } :: X) := set_fld rfl rfl (by simp)
@[simp] theorem gf_cells (M X : Mem) (s : St) : ixD (.obj M.length) (.str [99, 101, 108, 108, 115]) (M ++ oO s :: X) = .ok (eTup dN s.cells) (M ++ oO s :: X) := get_fld rfl rfl
@[simp] theorem sf_cells (M X : Mem) (s : St) (x : List Nat) : setD (.obj M.length) (.str [99, 101, 108, 108, 115]) (eTup dN x) (M ++ oO s :: X) = .ok () (M ++ oO { s with cells := x } :: X) := set_fld rfl rfl (by simp)
@[simp] theorem gf_owners (M X : Mem) (s : St) : ixD (.obj M.length) (.str [111, 119, 110, 101, 114, 115]) (M ++ oO s :: X) = .ok (eTup (dO dN) s.owners) (M ++ oO s :: X) := get_fld rfl rfl
@[simp] theorem sf_owners (M X : Mem) (s : St) (x : List (Option Nat)) : setD (.obj M.length) (.str [111, 119, 110, 101, 114, 115]) (eTup (dO dN) x) (M ++ oO s :: X) = .ok () (M ++ oO { s with owners := x } :: X) := set_fld rfl rfl (by simp)
@[simp] theorem gf_pipes (M X : Mem) (s : St) : ixD (.obj M.length) (.str [112, 105, 112, 101, 115]) (M ++ oO s :: X) = .ok (eTup (eTup dN) s.pipes) (M ++ oO s :: X) := get_fld rfl rfl
@[simp] theorem sf_pipes (M X : Mem) (s : St) (x : List (List Nat)) : setD (.obj M.length) (.str [112, 105, 112, 101, 115]) (eTup (eTup dN) x) (M ++ oO s :: X) = .ok () (M ++ oO { s with pipes := x } :: X) := set_fld rfl rfl (by simp)
@[simp] theorem gf_signals (M X : Mem) (s : St) : ixD (.obj M.length) (.str [115, 105, 103, 110, 97, 108, 115]) (M ++ oO s :: X) = .ok (eTup D.bl s.signals) (M ++ oO s :: X) := get_fld rfl rfl
@[simp] theorem sf_signals (M X : Mem) (s : St) (x : List Bool) : setD (.obj M.length) (.str [115, 105, 103, 110, 97, 108, 115]) (eTup D.bl x) (M ++ oO s :: X) = .ok () (M ++ oO { s with signals := x } :: X) := set_fld rfl rfl (by simp)
@[simp] theorem gf_blocks (M X : Mem) (s : St) : ixD (.obj M.length) (.str [98, 108, 111, 99, 107, 115]) (M ++ oO s :: X) = .ok (eTup dN s.blocks) (M ++ oO s :: X) := get_fld rfl rfl
@[simp] theorem sf_blocks (M X : Mem) (s : St) (x : List Nat) : setD (.obj M.length) (.str [98, 108, 111, 99, 107, 115]) (eTup dN x) (M ++ oO s :: X) = .ok () (M ++ oO { s with blocks := x } :: X) := set_fld rfl rfl (by simp)
@[simp] theorem gf_disk (M X : Mem) (s : St) : ixD (.obj M.length) (.str [100, 105, 115, 107]) (M ++ oO s :: X) = .ok (eTup dN s.disk) (M ++ oO s :: X) := get_fld rfl rfl
@[simp] theorem sf_disk (M X : Mem) (s : St) (x : List Nat) : setD (.obj M.length) (.str [100, 105, 115, 107]) (eTup dN x) (M ++ oO s :: X) = .ok () (M ++ oO { s with disk := x } :: X) := set_fld rfl rfl (by simp)
@[simp] theorem gf_buffer (M X : Mem) (s : St) : ixD (.obj M.length) (.str [98, 117, 102, 102, 101, 114]) (M ++ oO s :: X) = .ok (eTup eEv s.buffer) (M ++ oO s :: X) := get_fld rfl rfl
@[simp] theorem sf_buffer (M X : Mem) (s : St) (x : List Ev) : setD (.obj M.length) (.str [98, 117, 102, 102, 101, 114]) (eTup eEv x) (M ++ oO s :: X) = .ok () (M ++ oO { s with buffer := x } :: X) := set_fld rfl rfl (by simp)
@[simp] theorem gf_log (M X : Mem) (s : St) : ixD (.obj M.length) (.str [108, 111, 103]) (M ++ oO s :: X) = .ok (eTup eEv s.log) (M ++ oO s :: X) := get_fld rfl rfl
@[simp] theorem sf_log (M X : Mem) (s : St) (x : List Ev) : setD (.obj M.length) (.str [108, 111, 103]) (eTup eEv x) (M ++ oO s :: X) = .ok () (M ++ oO { s with log := x } :: X) := set_fld rfl rfl (by simp)
@[simp] theorem gf_rights (M X : Mem) (s : St) : ixD (.obj M.length) (.str [114, 105, 103, 104, 116, 115]) (M ++ oO s :: X) = .ok (eTup (eTup eNm) s.rights) (M ++ oO s :: X) := get_fld rfl rfl
@[simp] theorem sf_rights (M X : Mem) (s : St) (x : List (List Nm)) : setD (.obj M.length) (.str [114, 105, 103, 104, 116, 115]) (eTup (eTup eNm) x) (M ++ oO s :: X) = .ok () (M ++ oO { s with rights := x } :: X) := set_fld rfl rfl (by simp)
@[simp] theorem gf_turn (M X : Mem) (s : St) : ixD (.obj M.length) (.str [116, 117, 114, 110]) (M ++ oO s :: X) = .ok (D.int s.turn) (M ++ oO s :: X) := get_fld rfl rfl
@[simp] theorem sf_turn (M X : Mem) (s : St) (x : Int) : setD (.obj M.length) (.str [116, 117, 114, 110]) (D.int x) (M ++ oO s :: X) = .ok () (M ++ oO { s with turn := x } :: X) := set_fld rfl rfl (by simp)
@[simp] theorem sf_buffer0 (M X : Mem) (s : St) : setD (.obj M.length) (.str [98, 117, 102, 102, 101, 114]) (.tup []) (M ++ oO s :: X) = .ok () (M ++ oO { s with buffer := [] } :: X) := sf_buffer M X s []
@[simp] theorem fold_note (l : List Ev) (p : Nat) (b : Bool) (v : Nat) : D.tup (l.map eEv ++ [.tup [.str [110, 111, 116, 101], dN p, dN (dB b), dN v]]) = eTup eEv (l ++ [.note p b v]) := by unfold eTup; rw [List.map_append]; rfl
@[simp] theorem fold_mark (l : List Ev) (p : Nat) : D.tup (l.map eEv ++ [.tup [.str [109, 97, 114, 107], dN p]]) = eTup eEv (l ++ [.mark p]) := by unfold eTup; rw [List.map_append]; rfl
@[simp] theorem fold_app {A : Type} (f : A → D) (l m : List A) : D.tup (l.map f ++ m.map f) = eTup f (l ++ m) := by unfold eTup; rw [List.map_append]
@[simp] theorem fold_one {A : Type} (f : A → D) (l : List A) (a : A) : D.tup (l.map f ++ [f a]) = eTup f (l ++ [a]) := by unfold eTup; rw [List.map_append]; rfl
@[simp] theorem fold_dN (l : List Nat) (a : Nat) : D.tup (l.map dN ++ [.int (a : Int)]) = eTup dN (l ++ [a]) := by unfold eTup; rw [List.map_append]; rfl
@[simp] theorem toTup_map {A : Type} (f : A → D) (l : List A) (M : Mem) : toTupD [.lst (l.map f)] M = .ok (eTup f l) M := tup_of rfl
end HT

set_option maxHeartbeats 4000000
namespace K76
open PySem RI HT
open L2 hiding St
@[simp] theorem noO_sp (x : Stp) : D.noObj (eSp x) = true := by cases x <;> rfl
@[simp] theorem noOs_sp (l : List Stp) : D.noObjs (l.map eSp) = true := noObjs_map _ noO_sp l
@[simp] theorem rngOk_big {n : Nat} (h : n ≤ 16777216) : rngOk ((n : Int) + 1) = true := by
  simp only [rngOk, Nat.ble_eq]
  omega
theorem steps_of (n : Nat) (H : Hs) (ho : HOk H) (s : St) (wf : Good H s) (M : Mem) : callF tb (n + 5) 24 [eHs H, eSt s] M = .ok (.lst ((stepsH H s).map eSp)) M := by
  rw [u_24]
  have hf := wf.few
  have hb : s.buffer.length ≤ 16777216 := by omega
  have hl := programs_let n H ho s wf.toWf M
  have hm := ho.many
  have hle : (lets H s).length ≤ 3 := by
    have h1 : (able H s).length ≤ many H := by
      unfold able
      have := List.length_filter_le (can H s) (List.range (many H))
      rw [List.length_range] at this
      exact this
    have h2 : (lets H s).length ≤ (able H s).length := by
      unfold lets
      cases e : able H s with
      | nil => simp
      | cons a l =>
        simp only
        split <;> simp
    unfold many at h1
    omega
  have hc := lc_all (gd := none) (g := lg_24_0) (me := le_24_0) (F := callF tb (n + 4)) (r := [some (eHs H), some (eSt s), none]) (enc := dN) (M := M) rfl (fun m : Nat => eSp (.cut m)) (List.range (s.buffer.length + 1)) fun p hp => by
    exact ⟨[some (eHs H), some (eSt s), some (dN p)], by simp [lg_24_0], by simp [le_24_0, eSp]⟩
  have hz : s.buffer.length + 1 ≤ 16777216 := by omega
  have h3 : (s.buffer.length : Int) + 1 = ((s.buffer.length + 1 : Nat) : Int) := by omega
  have h4 : (lets H s).length + (s.buffer.length + 1) ≤ 16777216 := by omega
  have h5 : (stepsH H s).map eSp = (lets H s).map dN ++ (List.range (s.buffer.length + 1)).map (fun m : Nat => eSp (.cut m)) := by
    unfold stepsH
    rw [List.map_append, List.map_map, List.map_map]
    rfl
  have h6 : D.noObjs ((lets H s).map dN ++ (List.range (s.buffer.length + 1)).map (fun m : Nat => eSp (.cut m))) = true := by rw [← h5]; exact noOs_sp _
  rw [h5]
  simp only [noObjs_app] at h6
  simp [b_24, hl, rngOk_big hb, rng0, rng_len, wipeE, lt_24_0, hc, hz, h4]
  exact fin_same (by rw [noObj_lst, noObjs_app]; exact h6)
@[simp] theorem changed (n : Nat) {A : Type} (f : A → D) (hf : ∀ a, D.noObj (f a) = true) (l : List A) (i : Nat) (a : A) (hi : i < l.length) (hl : l.length ≤ 1000) (M : Mem) : callF tb (n + 1) 18 [eTup f l, dN i, f a] M = .ok (eTup f (l.set i a)) M := by
  rw [u_18]
  have h2 : i + (l.length - (i + 1) + 1) ≤ 16777216 := by omega
  have h3 : min i l.length = i := by omega
  simp [b_18, h2, h3]
  rw [← set_parts l i a hi]
  have h4 : D.noObj (eTup f (l.take i ++ a :: l.drop (i + 1))) = true := noO_eTup hf _
  have h5 : eTup f (l.take i ++ a :: l.drop (i + 1)) = .tup ((l.take i).map f ++ f a :: (l.drop (i + 1)).map f) := by
    unfold eTup
    rw [List.map_append, List.map_cons]
  rw [h5] at h4
  rw [← List.map_take, ← List.map_drop, h5, fin_same h4]
theorem opened (n : Nat) (s : St) (M : Mem) : callF tb (n + 1) 14 [eSt s] M = .ok (.obj M.length) (M ++ [oO s]) := by
  rw [u_14]
  have h : mergeD [] fN (fSt s) = some (oL s) := merge_st s
  have hb : D.bels M.length ((oL s).map (·.2)) = true := bels_pure _ _ (by simp [oL])
  simp only [b_14]
  simp only [ap_ret, ap_dz, ap_cons, ap_c, ap_nil, ap_var, List.getElem?_cons_zero, Res.bind_ok]
  show retOf _ _ ((match mergeD [] fN (fSt s) with | some l => if (D.bels M.length (l.map (·.2)) && Nat.ble (l.length) 16777216) = true then .ok (.obj M.length) (M ++ [.dks false l]) else .bad | none => .bad : Res D).toS _ _) = _
  rw [h]
  simp only [hb]
  rfl
theorem shut (n : Nat) (s : St) (M : Mem) : callF tb (n + 1) 15 [.obj M.length] (M ++ [oO s]) = .ok (eSt s) (M ++ [oO s]) := by
  rw [u_15]
  have e : fN = fN.map id := by rw [List.map_id]
  have hc : lcG none lg_15_0 mYes le_15_0 (callF tb n) [some (.obj M.length), none] fN (M ++ [oO s]) = .ok (fSt s) (M ++ [oO s]) := by
    simp [fN, lcG, lg_15_0, le_15_0, Gd.ok]
    rfl
  simp only [b_15]
  show retOf _ _ (mRet (mBl toTupD (mCons (mLc (mSeqI (mC (.tup fN))) lg_15_0 lt_15_0 le_15_0 [1]) mNil)) _ _ _) = _
  have h12 : fN.length = 12 := rfl
  have hs : D.noObj (.tup (fSt s)) = true := noO_st s
  have ht : ∀ M', toTupD [.lst (fSt s)] M' = .ok (.tup (fSt s)) M' := fun M' => tup_of rfl
  simp [wipeE, lt_15_0, hc, h12, ht, fin_end hs]
  rfl
theorem next_place (n : Nat) (H : Hs) (s : St) (wf : Wf H s) (p : Nat) (hp : p < H.rows.length) (l : Ln) (M : Mem) : callF tb (n + 1) 27 [eHs H, eSt s, dN p, eLn l] M = .ok (dN (nextP H s p l)) M := by
  rw [u_27]
  obtain ⟨x, hx⟩ := some_at (l := s.places) (i := p) (by rw [wf.places]; exact hp)
  obtain ⟨y, hy⟩ := some_at (l := s.numbers) (i := p) (by rw [wf.numbers]; exact hp)
  obtain ⟨r, hr⟩ := some_at hp
  cases l <;> simp [b_27, hx, hy, nextP, numH, Ln.word, Ln.rest, eq_words, okW, fld_eq, eRows, hr]
  all_goals (by_cases h0 : y = 0 <;> simp [h0, Ln.word, Ln.rest, eq_words, okW, fld_eq, eRows, hr])
end K76

set_option maxHeartbeats 400000
namespace K76
open PySem RI HT
open L2 hiding St
theorem in_ww (t : List Nat) (ht : okW t = true) (M : Mem) : inD false (.str t) (.tup [.str [119, 97, 107, 101], .str [119, 97, 105, 116]]) M = .ok (.bl (decide (t = [119, 97, 107, 101] ∨ t = [119, 97, 105, 116]))) M := by
  have h1 : D.fine 32 (.str t) = true := by rw [fine_str]; exact ht
  rw [in_fine (l := [.str [119, 97, 107, 101], .str [119, 97, 105, 116]]) rfl h1 (by simp [fine_str])]
  simp only [List.any_cons, List.any_nil, Bool.or_false, Bool.false_eq_true, if_false, D.toP, PyData.eqv, str_beq]
  congr 2
  rw [Bool.eq_iff_iff]
  simp only [Bool.or_eq_true, decide_eq_true_eq]
  exact ⟨fun h => h.imp Eq.symm Eq.symm, fun h => h.imp Eq.symm Eq.symm⟩
/-- what lies at hand for a line -/
structure At (H : Hs) (s : St) (p : Nat) (l : Ln) : Prop where
  num : ∃ y, s.numbers[p]? = some y
  cell : ∀ b, l = .get b ∨ l = .put b → dB b < s.cells.length
  file : ∀ b, l = .read b ∨ l = .note b → dB b < s.blocks.length
  lock : ∀ b, l = .take b ∨ l = .free b → dB b < s.owners.length
  pipe : ∀ b, l = .send b ∨ l = .hear b → dB b < s.pipes.length
  sign : ∀ b, l = .wake b ∨ l = .wait b → dB b < s.signals.length
  hand : ∀ q n, l = .hand q n → q < s.rights.length
  full : ∀ b, l = .hear b → ∃ x q, s.pipes[dB b]? = some (x :: q)
  room : ∀ b, l = .send b → ∃ q, s.pipes[dB b]? = some q ∧ q.length + 1 ≤ 2
theorem At.of {H : Hs} (ho : HOk H) {s : St} (wf : Wf H s) {p : Nat} (hp : p < H.rows.length) {l : Ln} (el : lineOf H s p = some l) (hc : can H s p = true) : At H s p l := by
  obtain ⟨k, hk⟩ := lineOf_ok ho el
  refine ⟨some_at (by rw [wf.numbers]; exact hp), ?_, ?_, ?_, ?_, ?_, ?_, ?_, ?_⟩
  · rintro b (rfl | rfl) <;> · rw [wf.cells]; simpa [lnOk, Ln.thing, hasK] using hk
  · rintro b (rfl | rfl) <;> · rw [wf.blocks]; simpa [lnOk, Ln.thing, hasK] using hk
  · rintro b (rfl | rfl) <;> · rw [wf.owners]; simpa [lnOk, Ln.thing, hasK] using hk
  · rintro b (rfl | rfl) <;> · rw [wf.pipes]; simpa [lnOk, Ln.thing, hasK] using hk
  · rintro b (rfl | rfl) <;> · rw [wf.signals]; simpa [lnOk, Ln.thing, hasK] using hk
  · rintro q n rfl
    rw [wf.rights]
    simp only [lnOk, Bool.and_eq_true, decide_eq_true_eq] at hk
    exact hk.1
  · rintro b rfl
    simp only [can, el, Bool.and_eq_true, free] at hc
    have h2 := hc.2
    cases e : s.pipes[dB b]? with
    | none => rw [e] at h2; cases h2
    | some q =>
      rw [e] at h2
      cases q with
      | nil => cases h2
      | cons x q => exact ⟨x, q, rfl⟩
  · rintro b rfl
    simp only [can, el, Bool.and_eq_true, free] at hc
    have h2 := hc.2
    cases e : s.pipes[dB b]? with
    | none => rw [e] at h2; cases h2
    | some q =>
      rw [e] at h2
      cases e1 : H.kp[dB b]? with
      | none => rw [e1] at h2; cases h2
      | some z =>
        rw [e1] at h2
        simp only [decide_eq_true_eq] at h2
        have := (ho.kp.2 z (List.mem_of_getElem? e1)).2
        exact ⟨q, rfl, by omega⟩
/-- dicts of names -/
theorem key1_nm (a b : Nm) : (D.key1 (eNm a) = D.key1 (eNm b)) ↔ a = b := by
  rw [show eNm a = .str a.txt from rfl, show eNm b = .str b.txt from rfl, key1_inj, txt_inj]
def nmD (n : Nm) : D × D := (eNm n, .bl true)
def addN (l : List Nm) (n : Nm) : List Nm := if n ∈ l then l else l ++ [n]
theorem dkset_nm (n : Nm) (l : List Nm) (k : L2.Key) (hk : D.key1 (eNm n) = some k) : dkset k (eNm n) (.bl true) (l.map nmD) = (addN l n).map nmD := by
  unfold dkset addN
  rw [← hk]
  by_cases h : n ∈ l
  · rw [if_pos, if_pos h]
    · rw [List.map_map]
      refine List.map_congr_left fun m _ => ?_
      simp only [Function.comp, nmD]
      exact ite_self _
    · rw [List.any_map, List.any_eq_true]
      exact ⟨n, h, by simp only [Function.comp, nmD, decide_eq_true_eq]⟩
  · rw [if_neg, if_neg h, List.map_append]
    · rfl
    · rw [List.any_map, List.any_eq_true]
      rintro ⟨m, hm, e⟩
      simp only [Function.comp, nmD, decide_eq_true_eq, key1_nm] at e
      exact h (e ▸ hm)
theorem dc_nm {g : MG} {mt : MT} {mk mv : ME} {F : FT} {r : EV} {M : Mem} (h : ∀ n : Nm, ∃ r1, g F (eNm n) r M = .ok r1 M ∧ mt F r1 M = .ok true M ∧ mk F r1 M = .ok (eNm n) M ∧ mv F r1 M = .ok (.bl true) M) : ∀ (l acc : List Nm), acc.length + l.length ≤ 1000 → dcG none g mt mk mv F r (l.map eNm) (acc.map nmD) M = .ok ((l.foldl addN acc).map nmD) M
  | [], acc, _ => rfl
  | n :: l, acc, hz => by
    obtain ⟨r1, e1, e2, e3, e4⟩ := h n
    have hl : (addN acc n).length + l.length ≤ 1000 := by
      unfold addN
      simp only [List.length_cons] at hz
      split
      · omega
      · simp only [List.length_append, List.length_cons, List.length_nil]; omega
    have ih := dc_nm h l (addN acc n) hl
    simp only [List.length_cons] at hz
    have hb : Nat.blt (acc.map nmD).length 16777216 = true := by
      rw [List.length_map]
      show Nat.ble _ _ = true
      rw [Nat.ble_eq]
      omega
    simp only [List.map_cons, dcG, Gd.ok, if_true, e1, Res.bind_ok, e2, e3, e4]
    rw [show D.key1 (eNm n) = some (.inr ⟨n.txt.toArray⟩) from rfl]
    simp only [hb, if_true]
    rw [dkset_nm n acc _ rfl, ih, List.foldl_cons]
theorem addN_new : ∀ (l acc : List Nm), (acc ++ l).Nodup → l.foldl addN acc = acc ++ l
  | [], acc, _ => by simp
  | n :: l, acc, h => by
    have h1 : n ∉ acc := by
      intro hm
      rw [List.nodup_append] at h
      exact h.2.2 n hm n List.mem_cons_self rfl
    rw [List.foldl_cons, show addN acc n = acc ++ [n] from by unfold addN; rw [if_neg h1], addN_new l _ (by rw [List.append_assoc]; exact h), List.append_assoc]
    rfl
theorem add_all {r : List Nm} (h : r.Nodup) (n : Nm) : (r ++ [n]).foldl addN [] = if n ∈ r then r else r ++ [n] := by
  rw [List.foldl_append, addN_new r [] (by simpa using h)]
  rfl
theorem ord_nm (l : List Nm) : ordL (l.map eNm) = true := by
  have h1 : D.noObjs (l.map eNm) = true := noObjs_map _ (fun _ => rfl) l
  have h2 : alkD (l.map eNm) = true := by
    unfold alkD
    rw [toPs_map]
    simp only [List.all_eq_true, List.mem_map]
    rintro x ⟨a, _, rfl⟩ y ⟨b, _, rfl⟩
    simp [eNm, D.toP, D.toPs, PySem.W.alike, PySem.W.alikeAll]
  have h3 : ((l.map eNm).all D.noN) = true := by
    simp only [List.all_eq_true, List.mem_map]
    rintro x ⟨a, _, rfl⟩
    rfl
  have h4 : PyData.depthAll (D.toPs (l.map eNm)) ≤ 60 := by
    rw [toPs_map]
    exact Nat.le_trans (depth_map _ 1 (fun a => by simp [eNm, D.toP, D.toPs, PyData.depth, PyData.depthAll]) l) (by decide)
  simp only [ordL, h1, h2, h3, Nat.ble_eq.mpr h4, Bool.and_self]
theorem sbl_nm (l : List Nm) : sbl (l.map eNm) = true := by
  simp only [sbl, Bool.or_eq_true, List.all_map]
  right
  simp [eNm]
theorem srt_nm (l : List Nm) : srtL (l.map eNm) = (l.mergeSort leNm).map eNm := by
  exact (List.map_mergeSort (f := eNm) (r := leNm) (s := leDD) (fun a _ b _ => rfl)).symm
theorem srtX_nm {M : Mem} {d : D} {l : List Nm} (h : dicD M d = some (l.map nmD)) : srtX [d] M = .ok (.lst ((l.mergeSort leNm).map eNm)) M := by
  have e : (l.map nmD).map (·.1) = l.map eNm := by rw [List.map_map]; rfl
  simp only [srtX, h, e, ord_nm, sbl_nm, Bool.and_self, if_true, srt_nm]
theorem dcEnd_nm (l : List Nm) (M : Mem) : dcEnd (l.map nmD) M = .ok (.obj M.length) (M ++ [.dks false (l.map nmD)]) := by
  have : D.bels M.length ((l.map nmD).map (·.2)) = true := bels_pure _ _ (by rw [List.map_map]; exact noObjs_map _ (fun _ => rfl) l)
  unfold dcEnd
  rw [if_pos this]
theorem kf_le {H : Hs} (ho : HOk H) {s : St} (wf : Wf H s) : s.blocks.length ≤ 1000 ∧ s.cells.length ≤ 1000 ∧ s.owners.length ≤ 1000 ∧ s.pipes.length ≤ 1000 ∧ s.signals.length ≤ 1000 ∧ s.numbers.length ≤ 1000 ∧ s.places.length ≤ 1000 ∧ s.rights.length ≤ 1000 := by
  have h1 := ho.many
  have h2 := ho.kc
  have h3 := ho.kl
  have h4 := ho.kp.1
  have h5 := ho.ks
  have h6 := ho.kf
  rw [wf.blocks, wf.cells, wf.owners, wf.pipes, wf.signals, wf.numbers, wf.places, wf.rights]
  omega
def allNm : List Nm := [⟨.c, false⟩, ⟨.c, true⟩, ⟨.f, false⟩, ⟨.f, true⟩, ⟨.k, false⟩, ⟨.k, true⟩, ⟨.p, false⟩, ⟨.p, true⟩, ⟨.s, false⟩, ⟨.s, true⟩]
theorem allNm_mem (n : Nm) : n ∈ allNm := by
  obtain ⟨k, b⟩ := n
  cases k <;> cases b <;> decide
theorem nodup_len : ∀ (l m : List Nm), l.Nodup → (∀ n ∈ l, n ∈ m) → l.length ≤ m.length
  | [], m, _, _ => Nat.zero_le _
  | a :: l, m, h, hs => by
    have h1 := List.nodup_cons.mp h
    have ha := hs a List.mem_cons_self
    have ih := nodup_len l (m.erase a) h1.2 fun n hn => by
      have : n ≠ a := fun e => h1.1 (e ▸ hn)
      exact (List.mem_erase_of_ne this).mpr (hs n (List.mem_cons_of_mem _ hn))
    rw [List.length_erase_of_mem ha] at ih
    have : 0 < m.length := List.length_pos_of_mem ha
    simp only [List.length_cons]
    omega
theorem nodup_le {r : List Nm} (h : r.Nodup) : r.length ≤ 10 :=
  nodup_len r allNm h fun n _ => allNm_mem n
theorem after_more (n : Nat) (H : Hs) (ho : HOk H) (s : St) (wf : Good H s) (p : Nat) (l : Ln) (a : At H s p l) (hw : l.word ≠ [119, 97, 107, 101] ∧ l.word ≠ [119, 97, 105, 116]) (hl : match l with | .set _ => False | .add _ => False | .get _ => False | .read _ => False | .hear _ => False | .put _ => False | .take _ => False | .free _ => False | .send _ => False | .wake _ => False | .wait _ => False | _ => True) (M : Mem) : callF tb (n + 2) 26 [.obj M.length, dN p, eLn l] (M ++ [oO s]) = .ok .non (M ++ [oO (eff s p l)]) := by
  rw [u_26]
  obtain ⟨y, hy⟩ := a.num
  have hf := wf.few
  have hb : s.buffer.length + 1 ≤ 16777216 := by omega
  have hk : s.log.length + s.buffer.length ≤ 16777216 := by omega
  cases l with
  | note b =>
    have h1 := a.file b (.inr rfl)
    have h2 := wf.blocks
    have hc := changed n dN (fun _ => rfl) s.blocks (dB b) y h1 (kf_le ho wf.toWf).1 (M ++ [oO s])
    simp [b_26, Ln.word, Ln.rest, eq_words, okW, hy, hc, eff, numH, hb]
  | mark => 
    simp [b_26, Ln.word, Ln.rest, eq_words, okW, hy, eff, numH, hb]
  | keep => simp [b_26, Ln.word, Ln.rest, eq_words, okW, eff, hk]
  | hand q m =>
    have h1 := a.hand q m rfl
    obtain ⟨r, hr⟩ := some_at h1
    have hd := wf.nodup r (List.mem_of_getElem? hr)
    have hlen := nodup_le hd
    have hz : r.length + 1 ≤ 16777216 := by omega
    have hdc := dc_nm (g := dg_26_0) (mt := mYes) (mk := dk_26_0) (mv := dv_26_0) (F := callF tb (n + 1)) (r := [some (.obj M.length), some (dN p), some (eLn (.hand q m)), some (.str [104, 97, 110, 100]), some (eTup eNm r), none]) (M := M ++ [oO s]) (fun x => ⟨[some (.obj M.length), some (dN p), some (eLn (.hand q m)), some (.str [104, 97, 110, 100]), some (eTup eNm r), some (eNm x)], by simp [dg_26_0], rfl, by simp [dk_26_0], by simp [dv_26_0]⟩) (r ++ [m]) [] (by simp; omega)
    rw [add_all hd m] at hdc
    have hsr : srtX [.obj (M.length + 1)] (M ++ [oO s, .dks false ((if m ∈ r then r else r ++ [m]).map nmD)]) = .ok (.lst ((insN m r).map eNm)) _ := srtX_nm (dicD_dks (lk := false) (by simp))
    simp only [List.map_append, List.map_cons, List.map_nil] at hdc
    have hc := fun M' => changed n (eTup eNm) noO_t6 s.rights q (insN m r) h1 (kf_le ho wf.toWf).2.2.2.2.2.2.2 M'
    simp [b_26, Ln.word, Ln.rest, eq_words, okW, eff, hr, hz, wipeE, dt_26_0, hdc, dcEnd_nm, hsr, hc]
  | say => simp [b_26, Ln.word, Ln.rest, eq_words, okW, eff]
  | stop => simp [b_26, Ln.word, Ln.rest, eq_words, okW, eff]
  | go j => simp [b_26, Ln.word, Ln.rest, eq_words, okW, eff]
  | zero j => simp [b_26, Ln.word, Ln.rest, eq_words, okW, eff]
  | _ => exact hl.elim
end K76

set_option maxHeartbeats 1000000
namespace K76
open PySem RI HT
open L2 hiding St
theorem after_line (n : Nat) (H : Hs) (ho : HOk H) (s : St) (wf : Good H s) (p : Nat) (hp : p < H.rows.length) (l : Ln) (a : At H s p l) (M : Mem) : callF tb (n + 3) 25 [.obj M.length, dN p, eLn l] (M ++ [oO s]) = .ok .non (M ++ [oO (after s p l)]) := by
  rw [u_25]
  obtain ⟨y, hy⟩ := a.num
  have hn : ∀ (v : Nat) M', callF tb (n + 2) 18 [eTup dN s.numbers, dN p, dN v] M' = .ok (eTup dN (s.numbers.set p v)) M' := fun v M' => changed (n + 1) dN (fun _ => rfl) s.numbers p v (by rw [wf.numbers]; exact hp) (kf_le ho wf.toWf).2.2.2.2.2.1 M'
  have hm := after_more n H ho s wf p l a
  have hk := kf_le ho wf.toWf
  cases l with
  | set v => simp [b_25, Ln.word, Ln.rest, eq_words, okW, hy, hn, after, eff, ownAt, numH]
  | add v =>
    have h3 := hn ((y + v) % 4) (M ++ [oO s])
    have h4 : dN ((y + v) % 4) = .int (((y : Int) + (v : Int)) % 4) := by simp
    rw [h4] at h3
    simp [b_25, Ln.word, Ln.rest, eq_words, okW, hy, h3, after, eff, ownAt, numH]
  | zero j => simp [b_25, Ln.word, Ln.rest, eq_words, okW, hy, hn, in_ww, hm (by simp [Ln.word]) trivial, after, ownAt, numH, eff]
  | go j => simp [b_25, Ln.word, Ln.rest, eq_words, okW, hy, hn, in_ww, hm (by simp [Ln.word]) trivial, after, ownAt, numH, eff]
  | say => simp [b_25, Ln.word, Ln.rest, eq_words, okW, hy, hn, in_ww, hm (by simp [Ln.word]) trivial, after, ownAt, numH, eff]
  | stop => simp [b_25, Ln.word, Ln.rest, eq_words, okW, hy, hn, in_ww, hm (by simp [Ln.word]) trivial, after, ownAt, numH, eff]
  | mark => simp [b_25, Ln.word, Ln.rest, eq_words, okW, hy, hn, in_ww, hm (by simp [Ln.word]) trivial, after, ownAt, numH, eff]
  | keep => simp [b_25, Ln.word, Ln.rest, eq_words, okW, hy, hn, in_ww, hm (by simp [Ln.word]) trivial, after, ownAt, numH, eff]
  | note b => simp [b_25, Ln.word, Ln.rest, eq_words, okW, hy, hn, in_ww, hm (by simp [Ln.word]) trivial, after, ownAt, numH, eff]
  | hand q m => simp [b_25, Ln.word, Ln.rest, eq_words, okW, hy, hn, in_ww, hm (by simp [Ln.word]) trivial, after, ownAt, numH, eff]
  | get b =>
    obtain ⟨x, hx⟩ := some_at (a.cell b (.inl rfl))
    simp [b_25, Ln.word, Ln.rest, eq_words, okW, hy, hn, hx, after, ownAt, numH, eff]
  | read b =>
    obtain ⟨x, hx⟩ := some_at (a.file b (.inl rfl))
    simp [b_25, Ln.word, Ln.rest, eq_words, okW, hy, hn, hx, after, ownAt, numH, eff]
  | put b =>
    have hc := changed (n + 1) dN (fun _ => rfl) s.cells (dB b) y (a.cell b (.inr rfl)) hk.2.1 (M ++ [oO s])
    simp [b_25, Ln.word, Ln.rest, eq_words, okW, hy, hn, hc, after, ownAt, numH, eff]
  | take b =>
    have hc := changed (n + 1) (dO dN) noO_dO s.owners (dB b) (some p) (a.lock b (.inl rfl)) hk.2.2.1 (M ++ [oO s])
    rw [dO_some] at hc
    simp [b_25, Ln.word, Ln.rest, eq_words, okW, hy, hn, hc, after, ownAt, numH, eff]
  | free b =>
    have hc := changed (n + 1) (dO dN) noO_dO s.owners (dB b) none (a.lock b (.inr rfl)) hk.2.2.1 (M ++ [oO s])
    rw [dO_none] at hc
    simp [b_25, Ln.word, Ln.rest, eq_words, okW, hy, hn, hc, after, ownAt, numH, eff]
  | wake b =>
    have hc := changed (n + 1) D.bl (fun _ => rfl) s.signals (dB b) true (a.sign b (.inl rfl)) hk.2.2.2.2.1 (M ++ [oO s])
    simp [b_25, Ln.word, Ln.rest, eq_words, okW, hy, hn, hc, in_ww, after, ownAt, numH, eff]
  | wait b =>
    have hc := changed (n + 1) D.bl (fun _ => rfl) s.signals (dB b) false (a.sign b (.inr rfl)) hk.2.2.2.2.1 (M ++ [oO s])
    simp [b_25, Ln.word, Ln.rest, eq_words, okW, hy, hn, hc, in_ww, after, ownAt, numH, eff]
  | hear b =>
    obtain ⟨x, q, hx⟩ := a.full b rfl
    have hc := changed (n + 1) (eTup dN) noO_t1 s.pipes (dB b) q (a.pipe b (.inr rfl)) hk.2.2.2.1 (M ++ [oO s])
    simp [b_25, Ln.word, Ln.rest, eq_words, okW, hy, hn, hx, hc, after, ownAt, numH, eff]
  | send b =>
    obtain ⟨q, hx, hq2⟩ := a.room b rfl
    have hq : q.length + 1 ≤ 16777216 := by omega
    have hc := changed (n + 1) (eTup dN) noO_t1 s.pipes (dB b) (q ++ [y]) (a.pipe b (.inl rfl)) hk.2.2.2.1 (M ++ [oO s])
    simp [b_25, Ln.word, Ln.rest, eq_words, okW, hy, hn, hx, hc, hq, after, ownAt, numH, eff]
end K76

set_option maxHeartbeats 1000000
namespace K76
open PySem RI HT
open L2 hiding St
theorem nice_ev : Nice eEv := ⟨noO_ev, fun e => by have := enc_ev.fine e; simp only [D.fine, Bool.and_eq_true] at this; exact this.1.2, fun e => by have := enc_ev.fine e; simp only [D.fine, Bool.and_eq_true, Nat.ble_eq] at this; omega⟩
theorem eq_lev (n : Bool) (l : List Ev) (M : Mem) : eqD n (.lst (l.map eEv)) (.lst []) M = .ok (.bl (if n then !l.isEmpty else l.isEmpty)) M := eq_nil nice_ev n l M
def Ev.word : Ev → List Nat
  | .note _ _ _ => [110, 111, 116, 101]
  | .mark _ => [109, 97, 114, 107]
@[simp] theorem ev0 (e : Ev) (M : Mem) : ixD (eEv e) (.int 0) M = .ok (.str (Ev.word e)) M := by cases e <;> rfl
@[simp] theorem ev1 (e : Ev) (M : Mem) : ixD (eEv e) (.int 1) M = .ok (dN e.by) M := by cases e <;> rfl
@[simp] theorem ev2 (p : Nat) (b : Bool) (v : Nat) (M : Mem) : ixD (eEv (.note p b v)) (.int 2) M = .ok (dN (dB b)) M := (rfl)
@[simp] theorem ev3 (p : Nat) (b : Bool) (v : Nat) (M : Mem) : ixD (eEv (.note p b v)) (.int 3) M = .ok (dN v) M := (rfl)
@[simp] theorem eq_evw (e : Ev) (t : List Nat) (n : Bool) (M : Mem) (ht : okW t = true) : eqD n (.str (Ev.word e)) (.str t) M = .ok (.bl (if n then !decide (Ev.word e = t) else decide (Ev.word e = t))) M := eq_words _ _ (by cases e <;> rfl) ht n M
@[simp] theorem eq_mkt (b : Bool) (t : List Nat) (n : Bool) (M : Mem) (ht : okW t = true) : eqD n (.str (mkTxt b)) (.str t) M = .ok (.bl (if n then !decide (mkTxt b = t) else decide (mkTxt b = t))) M := eq_words _ _ (by cases b <;> rfl) ht n M
theorem mkt_all (b : Bool) : (mkTxt b = [97, 108, 108]) ↔ b = true := by cases b <;> simp [mkTxt]
theorem gd_pure {M : Mem} {j : Nat} {l : List D} (h : M[j]? = some (.lst l)) : Gd.ok (some (j, l)) M = true := by
  simp only [Gd.ok, h]
  exact D.beqs_self l
theorem ev8' {R : EV} (h : R.length = 8) : ∃ a b c d e f g i, R = [a, b, c, d, e, f, g, i] := ev8 h
def mI (H : Hs) (B : D) (log : List Ev) (M0 : Mem) (acc : List Ev) (R : EV) (M : Mem) : Prop := M = M0 ++ [.lst (acc.map eEv)] ∧ R.length = 8 ∧ R[0]? = some (some (eHs H)) ∧ R[1]? = some (some B) ∧ R[2]? = some (some (eTup eEv log)) ∧ R[3]? = some (some (.obj M0.length)) ∧ acc.length ≤ log.length
theorem mend_lc0 (F : FT) (a b c d e f g h : Option D) (l : List Ev) (M : Mem) : lcG none lg_28_0 lt_28_0 le_28_0 F [a, b, c, d, e, f, g, h] (l.map eEv) M = .ok ((l.filter Ev.isMark).map eEv) M :=
  lc_ok (gd := none) (g := lg_28_0) (mt := lt_28_0) (me := le_28_0) (F := F) (r := [a, b, c, d, e, f, g, h]) (enc := eEv) (M := M) rfl Ev.isMark eEv l fun x _ => by
    refine ⟨[a, b, c, d, e, f, g, some (eEv x)], by simp [lg_28_0], ?_, fun _ => by simp [le_28_0]⟩
    cases x <;> simp [lt_28_0, okW, Ev.word, Ev.isMark, eq_words]
theorem mend_lc1 (F : FT) (H : Hs) (b c d f g h : Option D) (p : Nat) (bb : Bool) (v : Nat) (l : List Ev) (hl : ∀ x ∈ l, x.isMark = true) (M : Mem) : lcG none lg_28_1 lt_28_1 le_28_1 F [some (eHs H), b, c, d, some (eEv (.note p bb v)), f, g, h] (l.map eEv) M = .ok ((l.filter (markFor H p)).map eEv) M :=
  lc_ok (gd := none) (g := lg_28_1) (mt := lt_28_1) (me := le_28_1) (F := F) (r := [some (eHs H), b, c, d, some (eEv (.note p bb v)), f, g, h]) (enc := eEv) (M := M) rfl (markFor H p) eEv l fun x hx => by
    refine ⟨[some (eHs H), b, c, d, some (eEv (.note p bb v)), f, g, some (eEv x)], by simp [lg_28_1], ?_, fun _ => by simp [le_28_1]⟩
    have := hl x hx
    cases x with
    | note _ _ _ => cases this
    | mark q =>
      cases ha : H.all
      · simp [lt_28_1, okW, fld_eq, mkt_all, ha, markFor, Ev.by]
        omega
      · simp [lt_28_1, okW, fld_eq, mkt_all, ha, markFor]
theorem mend_turn (n : Nat) (H : Hs) (B : D) (log : List Ev) (hz : log.length ≤ 1000000) (M0 : Mem) (acc : List Ev) (q : Ev × Nat) (R : EV) (M : Mem) (hq : acc.length ≤ q.2 ∧ q.2 < log.length) (i : mI H B log M0 acc R M) :
    ∃ R' M', (fg_28_2 (callF tb n) (.tup [dN q.2, eEv q.1]) R M).bind (fun r1 M1 => fb_28_2 (callF tb n) r1 M1) = .ok (.next R') M' ∧ mI H B log M0 (if isSet H log q = true then acc ++ [q.1] else acc) R' M' := by
  obtain ⟨rfl, h8, h0, h1, h2, h3, h4⟩ := i
  obtain ⟨a, b, c, d, e, f, g, h, rfl⟩ := ev8 h8
  simp only [List.getElem?_cons_zero, List.getElem?_cons_succ, Option.some.injEq] at h0 h1 h2 h3
  subst h0 h1 h2 h3
  obtain ⟨x, k⟩ := q
  simp only at hq ⊢
  cases x with
  | mark p =>
    refine ⟨[some (eHs H), some B, some (eTup eEv log), some (.obj M0.length), some (eEv (.mark p)), some (dN k), g, h], M0 ++ [.lst (acc.map eEv)], ?_, ?_⟩
    · simp [fg_28_2, fb_28_2, okW, Ev.word, eq_words]
    · exact ⟨rfl, rfl, rfl, rfl, rfl, rfl, h4⟩
  | note p bb v =>
    have hl : (log.drop (k + 1)).length ≤ 16777216 := by rw [List.length_drop]; omega
    have hl' : log.length - (k + 1) ≤ 16777216 := by omega
    have hm : (((log.drop (k + 1)).filter Ev.isMark).length) ≤ 16777216 := Nat.le_trans (List.length_filter_le _ _) hl
    have c0 := fun a b c d e f g h M => mend_lc0 (callF tb n) a b c d e f g h (log.drop (k + 1)) M
    have c1 := fun b c d f g h M => mend_lc1 (callF tb n) H b c d f g h p bb v ((log.drop (k + 1)).filter Ev.isMark) (fun x hx => (List.mem_filter.mp hx).2) M
    have hf : (((log.drop (k + 1)).filter Ev.isMark).filter (markFor H p)).isEmpty = !((log.drop (k + 1)).any (markFor H p)) := by
      rw [List.filter_filter]
      have : ∀ l : List Ev, (l.filter fun a => markFor H p a && a.isMark).isEmpty = !(l.any (markFor H p)) := by
        intro l
        rw [Bool.eq_iff_iff]
        simp only [List.isEmpty_iff, List.filter_eq_nil_iff, Bool.not_eq_true', List.any_eq_false]
        constructor
        · intro h x hx hm
          refine h x hx ?_
          cases x with
          | note _ _ _ => cases hm
          | mark _ => simpa [Ev.isMark] using hm
        · intro h x hx hm
          exact h x hx (by simp only [Bool.and_eq_true] at hm; exact hm.1)
      exact this _
    have ha : acc.length < LIM := by show _ < 16777216; omega
    have happ := app_last (M := M0) (X := []) (l := acc.map eEv) (v := eEv (.note p bb v)) (by rw [List.length_map]; exact ha) (noO_ev _)
    have hE := fun M => eq_lev true (((log.drop (k + 1)).filter Ev.isMark).filter (markFor H p)) M
    rw [hf] at hE
    simp only [if_true, Bool.not_not] at hE
    generalize hL1 : (((log.drop (k + 1)).filter Ev.isMark).filter (markFor H p)) = L1 at c1 hE
    generalize hL0 : ((log.drop (k + 1)).filter Ev.isMark) = L0 at c0 c1 hm
    have e0 : isSet H log (.note p bb v, k) = (log.drop (k + 1)).any (markFor H p) := rfl
    rw [e0]
    generalize (log.drop (k + 1)).any (markFor H p) = bt at hE
    cases bt with
    | false =>
      refine ⟨[some (eHs H), some B, some (eTup eEv log), some (.obj M0.length), some (eEv (.note p bb v)), some (dN k), some (.lst (L0.map eEv)), h], M0 ++ [.lst (acc.map eEv)], ?_, ?_⟩
      · simp [fg_28_2, fb_28_2, okW, Ev.word, wipeE, ← List.map_drop, hl', c0, c1, hm, hE, eq_words]
      · exact ⟨rfl, rfl, rfl, rfl, rfl, rfl, h4⟩
    | true =>
      refine ⟨[some (eHs H), some B, some (eTup eEv log), some (.obj M0.length), some (eEv (.note p bb v)), some (dN k), some (.lst (L0.map eEv)), h], M0 ++ [.lst ((acc ++ [Ev.note p bb v]).map eEv)], ?_, ?_⟩
      · simp [fg_28_2, fb_28_2, okW, Ev.word, wipeE, ← List.map_drop, hl', c0, c1, hm, hE, happ, eq_words]
      · refine ⟨rfl, rfl, rfl, rfl, rfl, rfl, ?_⟩
        simp only [if_true, List.length_append, List.length_cons, List.length_nil]
        omega
end K76

set_option maxHeartbeats 1000000
namespace K76
open PySem RI HT
open L2 hiding St
theorem mend_loop (n : Nat) (H : Hs) (B : D) (log : List Ev) (hz : log.length ≤ 1000000) (M0 : Mem) : ∀ (l : List Ev) (k : Nat) (acc : List Ev) (R : EV) (M : Mem), acc.length ≤ k → k + l.length = log.length → mI H B log M0 acc R M →
    ∃ R' M', forG none fg_28_2 fb_28_2 (callF tb n) ((l.zipIdx k).map fun q => .tup [dN q.2, eEv q.1]) R M = .ok (.next R') M' ∧ mI H B log M0 ((l.zipIdx k).foldl (fun a q => if isSet H log q = true then a ++ [q.1] else a) acc) R' M'
  | [], k, acc, R, M, _, _, i => ⟨R, M, rfl, i⟩
  | e :: l, k, acc, R, M, hk, hl, i => by
    simp only [List.length_cons] at hl
    obtain ⟨R1, M1, e1, i1⟩ := mend_turn n H B log hz M0 acc (e, k) R M ⟨hk, by show k < log.length; omega⟩ i
    have hacc : (if isSet H log (e, k) = true then acc ++ [e] else acc).length ≤ k + 1 := by
      split
      · rw [List.length_append]; exact Nat.succ_le_succ hk
      · omega
    obtain ⟨R2, M2, e2, i2⟩ := mend_loop n H B log hz M0 l (k + 1) _ R1 M1 hacc (by omega) i1
    refine ⟨R2, M2, ?_, ?_⟩
    · simp only [List.zipIdx_cons, List.map_cons, forG, gd_none, if_true]
      rw [← RI.bind_assoc, e1, Res.bind_ok]
      exact e2
    · rw [List.zipIdx_cons, List.foldl_cons]
      exact i2
theorem settledE_note {H : Hs} : ∀ {l : List Ev} {e : Ev}, e ∈ settledE H l → ∃ p b v, e = .note p b v
  | [], e, h => by cases h
  | .note p b v :: l, e, h => by
    simp only [settledE] at h
    split at h
    · rcases List.mem_cons.mp h with h | h
      · exact ⟨p, b, v, h⟩
      · exact settledE_note h
    · exact settledE_note h
  | .mark p :: l, e, h => settledE_note (l := l) h
def pI (A C : D) (S : List Ev) (k : Nat) (M0 : Mem) (s : List Nat) (R : EV) (M : Mem) : Prop := M = M0 ++ [.lst (S.map eEv)] ∧ R.length = 8 ∧ R[0]? = some (some A) ∧ R[1]? = some (some (eTup dN s)) ∧ s.length = k
theorem mended (n : Nat) (H : Hs) (blocks : List Nat) (log : List Ev) (hz : log.length ≤ 1000000) (hb : blocks.length ≤ 1000) (hn : ∀ p b v, Ev.note p b v ∈ log → dB b < blocks.length) (M : Mem) : callF tb (n + 2) 28 [eHs H, eTup dN blocks, eTup eEv log] M = .ok (eTup dN (mend H blocks log)) M := by
  rw [u_28]
  obtain ⟨R1, M1, e1, i1⟩ := mend_loop (n + 1) H (eTup dN blocks) log hz M log 0 [] [some (eHs H), some (eTup dN blocks), some (eTup eEv log), some (.obj M.length), none, none, none, none] (M ++ [.lst []]) (Nat.zero_le _) (Nat.zero_add _) ⟨rfl, rfl, rfl, rfl, rfl, rfl, Nat.zero_le _⟩
  rw [settled_fold H log log 0 [] rfl, List.nil_append] at i1
  obtain ⟨rfl, h8, h0, h1, h2, h3, h4⟩ := i1
  obtain ⟨a, b, c, d, e, f, g, h, rfl⟩ := ev8 h8
  simp only [List.getElem?_cons_zero, List.getElem?_cons_succ, Option.some.injEq] at h0 h1 h2 h3
  subst h0 h1 h2 h3
  have hput := for_ok (gd := some (M.length, (settledE H log).map eEv)) (g := fg_28_3) (b := fb_28_3) (F := callF tb (n + 1)) (enc := eEv) (pI (eHs H) (eTup dN blocks) (settledE H log) blocks.length M) (fun (_ : Empty) _ _ => False) (fun s e => .inr (putE s e)) (fun s R M' i => gd_pure (by obtain ⟨rfl, _⟩ := i; simp)) (settledE H log) (fun s x R M' hx i => by
    obtain ⟨rfl, h8, h0, h1, hl⟩ := i
    obtain ⟨a, b, c, d, e, f, g, h, rfl⟩ := ev8 h8
    simp only [List.getElem?_cons_zero, List.getElem?_cons_succ, Option.some.injEq] at h0 h1
    subst h0 h1
    obtain ⟨p, bb, v, rfl⟩ := settledE_note hx
    have hc := fun M' => changed n dN (fun _ => rfl) s (dB bb) v (by rw [hl]; exact hn p bb v (settledE_sub hx)) (by omega) M'
    exact ⟨[some (eHs H), some (eTup dN (s.set (dB bb) v)), c, d, some (eEv (.note p bb v)), f, g, h], _, .inl (by simp [fg_28_3, fb_28_3, hc]), rfl, rfl, rfl, rfl, by rw [putE_len]; exact hl⟩) blocks [some (eHs H), some (eTup dN blocks), some (eTup eEv log), some (.obj M.length), e, f, g, h] (M ++ [.lst ((settledE H log).map eEv)]) ⟨rfl, rfl, rfl, rfl, rfl⟩
  rw [foldS_inr] at hput
  obtain ⟨R', M', e2, rfl, h8', h0', h1', hl'⟩ := hput
  obtain ⟨a', b', c', d', e', f', g', h', rfl⟩ := ev8 h8'
  simp only [List.getElem?_cons_zero, List.getElem?_cons_succ, Option.some.injEq] at h0' h1'
  subst h0' h1'
  have hnew : newO [] M = .ok (.obj M.length) (M ++ [.lst []]) := newO_pure rfl M
  simp [b_28, hnew, enum_map, e1, e2, mend]
end K76

set_option maxHeartbeats 1000000
namespace K76
open PySem RI HT
open L2 hiding St
theorem rep_n (n : Nat) : D.tup (List.replicate n (.int 0)) = eTup dN (List.replicate n 0) := (eTup_rep dN n 0).symm
theorem begun_with (n : Nat) (H : Hs) (ho : HOk H) (blocks : List Nat) (M : Mem) : callF tb (n + 2) 16 [eHs H, eTup dN blocks] M = .ok (eSt (begun H blocks)) M := by
  rw [u_16]
  have h0 := ho.many
  have h1 : many H ≤ 1000 := by unfold many; omega
  have h2 : H.kc ≤ 1000 := by have := ho.kc; omega
  have h3 : H.kl ≤ 1000 := by have := ho.kl; omega
  have h4 : H.kp.length ≤ 1000 := by have := ho.kp.1; omega
  have h5 : H.ks ≤ 1000 := by have := ho.ks; omega
  have hk : ∀ M', seqD M' (eKinds H) = some [dN H.kc, dN H.kl, eTup dN H.kp, dN H.ks, dN H.kf] := fun _ => rfl
  have hsh := shut n (begun H blocks) M
  have q1 := fun M' => mul_one (.int 0) (many H) h1 M'
  have q2 := fun M' => mul_one (.int 0) H.kc h2 M'
  have q3 := fun M' => mul_one .non H.kl h3 M'
  have q4 := fun M' => mul_one (.tup []) H.kp.length h4 M'
  have q5 := fun M' => mul_one (.bl false) H.ks h5 M'
  have e1 := rep_n (many H)
  have e2 := rep_n H.kc
  have e3 : D.tup (List.replicate H.kl .non) = eTup (dO dN) (List.replicate H.kl none) := (eTup_rep (dO dN) H.kl none).symm
  have e4 : D.tup (List.replicate H.kp.length (.tup [])) = eTup (eTup dN) (List.replicate H.kp.length []) := (eTup_rep (eTup dN) H.kp.length []).symm
  have e5 : D.tup (List.replicate H.ks (.bl false)) = eTup D.bl (List.replicate H.ks false) := (eTup_rep D.bl H.ks false).symm
  have hb : D.bels M.length ((oL (begun H blocks)).map (·.2)) = true := bels_pure _ _ (by simp [oL])
  have fin : ∀ R, retOf false M.length ((callF tb (n + 1) 15 [.obj M.length] (M ++ [oO (begun H blocks)])).toS R fun d M1 => .ok (.ret d) M1) = .ok (eSt (begun H blocks)) M := by
    intro R
    rw [hsh]
    simp
  simp [b_16, fld_eq, hk, lenRows, q1, q2, q3, q4, q5, e1, e2, e3, e4, e5]
  rw [if_pos]
  · simp only [Res.bind_ok]
    exact fin _
  · exact ⟨by decide, hb⟩
theorem begin_ (n : Nat) (H : Hs) (ho : HOk H) (M : Mem) : callF tb (n + 3) 17 [eHs H] M = .ok (eSt (begun H (List.replicate H.kf 0))) M := by
  rw [u_17]
  have h6 : H.kf ≤ 1000 := by have := ho.kf; omega
  have q6 := fun M' => mul_one (.int 0) H.kf h6 M'
  have hb := begun_with n H ho (List.replicate H.kf 0)
  simp [b_17, fld_eq, q6, rep_n, hb]
theorem goP_eq (H : Hs) (s : St) (p : Nat) (l : Ln) : goP H s p l = { { after s p l with places := s.places.set p (nextP H s p l) } with turn := (p : Int) } := rfl
theorem after_places (s : St) (p : Nat) (l : Ln) : (after s p l).places = s.places := by cases l <;> rfl
theorem go_step (n : Nat) (H : Hs) (ho : HOk H) (s : St) (wf : Good H s) (p : Nat) (hp : p < H.rows.length) (l : Ln) (el : lineOf H s p = some l) (hc : can H s p = true) (M : Mem) : callF tb (n + 4) 29 [eHs H, eSt s, dN p] M = .ok (eSt (goP H s p l)) M := by
  rw [u_29]
  have h1 := opened (n + 2) s M
  have h2 := fun M' => line_of (n + 2) H s p hp wf.places M'
  rw [el] at h2
  have h3 := after_line n H ho s wf p hp l (At.of ho wf.toWf hp el hc) M
  have h4 := fun M' => next_place (n + 2) H s wf.toWf p hp l M'
  have h5 := fun M' => changed (n + 2) dN (fun _ => rfl) s.places p (nextP H s p l) (by rw [wf.places]; exact hp) (kf_le ho wf.toWf).2.2.2.2.2.2.1 M'
  have h6 := shut (n + 2) (goP H s p l) M
  rw [goP_eq] at h6 ⊢
  have hty : ∀ M', mIsi .tuple (mVar 2) (callF tb (n + 3)) [some (eHs H), some (eSt s), some (dN p), none, none] M' = .ok (.bl false) M' := fun _ => rfl
  simp [b_29, h1, h2, h3, after_places, h4, h5, h6, truD, D.ty, isiB]
theorem cut_step (n : Nat) (H : Hs) (ho : HOk H) (s : St) (wf : Good H s) (m : Nat) (hm : m ≤ s.buffer.length) (M : Mem) : callF tb (n + 4) 29 [eHs H, eSt s, eSp (.cut m)] M = .ok (eSt (begun H (mend H s.disk (s.log ++ s.buffer.take m)))) M := by
  rw [u_29]
  have hf := wf.few
  have hz : (s.log ++ s.buffer.take m).length ≤ 1000000 := by rw [List.length_append, List.length_take]; omega
  have hz2 : s.log.length + min m s.buffer.length ≤ 16777216 := by omega
  have h1 := mended (n + 1) H s.disk (s.log ++ s.buffer.take m) hz (by rw [wf.disk]; have := ho.kf; omega) (fun p b v h => by
    rw [wf.disk]
    have : Ev.note p b v ∈ s.log ++ s.buffer := by
      rcases List.mem_append.mp h with h | h
      · exact List.mem_append.mpr (.inl h)
      · exact List.mem_append.mpr (.inr (List.mem_of_mem_take h))
    exact (wf.notes _ this).2) M
  have h2 := begun_with (n + 1) H ho (mend H s.disk (s.log ++ s.buffer.take m)) M
  have hs2 : ∀ M', ixD (eSp (.cut m)) (.int 1) M' = .ok (dN m) M' := fun _ => rfl
  simp [b_29, truD, eSp, D.ty, isiB]
  simp [h1, h2, hz2, ix_tup1, ← List.map_take]
end K76

set_option maxHeartbeats 1000000
namespace K76
open PySem RI HT
open L2 hiding St
@[simp] theorem truD_bl (b : Bool) (M : Mem) : truD (.bl b) M = .ok b M := (rfl)
theorem is_step_go (n : Nat) (H : Hs) (ho : HOk H) (s : St) (wf : Good H s) (p : Nat) (M : Mem) : callF tb (n + 5) 30 [eHs H, eSt s, dN p] M = .ok (.bl (decide (p ∈ lets H s))) M := by
  rw [u_30]
  have h1 := programs_let n H ho s wf.toWf
  have h2 := fun M' => is_from (n + 3) (p : Int) 0 ((many H : Int) - 1) M'
  have h3 := fun M' => enc_nat.isIn (by decide) (y := .lst ((lets H s).map dN)) (l := lets H s) (M := M') rfl false p
  have hm : p ∈ lets H s → (p : Int) ≤ (many H : Int) - 1 := fun h => by
    have := (able_mem.mp (lets_able h)).1
    omega
  by_cases hp : (p : Int) ≤ (many H : Int) - 1
  · simp [b_30, D.ty, isiB, fld_eq, lenRows, h1, h2, h3, hp]
  · have hn : p ∉ lets H s := fun h => hp (hm h)
    simp [b_30, D.ty, isiB, fld_eq, lenRows, h1, h2, h3, hp, hn]
theorem is_step_cut (n : Nat) (H : Hs) (ho : HOk H) (s : St) (wf : Good H s) (m : Nat) (M : Mem) : callF tb (n + 5) 30 [eHs H, eSt s, eSp (.cut m)] M = .ok (.bl (decide (m ≤ s.buffer.length))) M := by
  rw [u_30]
  have h2 := fun M' => is_from (n + 3) (m : Int) 0 (s.buffer.length : Int) M'
  have hl : ∀ M', lenX [.tup [.str [99, 117, 116], dN m]] M' = .ok (.int 2) M' := fun M' => len_of (l := [.str [99, 117, 116], dN m]) rfl
  simp [b_30, D.ty, isiB, h2, eSp, ix_tup0, ix_tup1, hl, eq_words, okW]
theorem is_step (n : Nat) (H : Hs) (ho : HOk H) (s : St) (wf : Good H s) (x : Stp) (M : Mem) : callF tb (n + 5) 30 [eHs H, eSt s, eSp x] M = .ok (.bl (okSp H s x)) M := by
  cases x with
  | go p => exact is_step_go n H ho s wf p M
  | cut m => exact is_step_cut n H ho s wf m M
theorem lets_line {H : Hs} {s : St} {p : Nat} (h : p ∈ lets H s) : p < H.rows.length ∧ can H s p = true ∧ ∃ l, lineOf H s p = some l := by
  obtain ⟨h1, h2⟩ := able_mem.mp (lets_able h)
  refine ⟨h1, h2, ?_⟩
  unfold can at h2
  cases e : lineOf H s p with
  | none => rw [e] at h2; cases h2
  | some l => exact ⟨l, rfl⟩
theorem behind (n : Nat) (H : Hs) (ho : HOk H) (s : St) (wf : Good H s) (x : Stp) (hx : okSp H s x = true) (M : Mem) : callF tb (n + 4) 29 [eHs H, eSt s, eSp x] M = .ok (eSt (goS H s x)) M := by
  cases x with
  | go p =>
    obtain ⟨h1, h2, l, h3⟩ := lets_line (of_decide_eq_true hx)
    have := go_step n H ho s wf p h1 l h3 h2 M
    simp only [goS, h3]
    exact this
  | cut m => exact cut_step n H ho s wf m (of_decide_eq_true hx) M
theorem stepped (n : Nat) (H : Hs) (ho : HOk H) (s : St) (wf : Good H s) (x : Stp) (hx : okSp H s x = true) (M : Mem) : callF tb (n + 6) 31 [eHs H, eSt s, eSp x] M = .ok (eSt (goS H s x)) M := by
  rw [u_31]
  have h1 := is_step n H ho s wf x M
  rw [hx] at h1
  have h2 := behind (n + 1) H ho s wf x hx M
  simp [b_31, h1, h2]
def wL : List (D × D) := [(.str [102, 114, 101, 101], .str [102, 114, 101, 101]), (.str [115, 101, 110, 100], .str [102, 117, 108, 108]), (.str [104, 101, 97, 114], .str [101, 109, 112, 116, 121]), (.str [119, 97, 105, 116], .str [115, 105, 103, 110, 97, 108])]
theorem why_dks (F : FT) (r : EV) (M : Mem) : mDks [([102, 114, 101, 101], (mC (.str [102, 114, 101, 101]))), ([115, 101, 110, 100], (mC (.str [102, 117, 108, 108]))), ([104, 101, 97, 114], (mC (.str [101, 109, 112, 116, 121]))), ([119, 97, 105, 116], (mC (.str [115, 105, 103, 110, 97, 108])))] F r M = .ok (.obj M.length) (M ++ [.dks false wL]) := by
  simp only [ap_dks, ap_evP0, ap_evP1, ap_c, Res.bind_ok, Res.noX]
  rw [if_pos]
  · rfl
  · exact ⟨by decide, bels_pure _ _ rfl⟩
theorem why_get {M : Mem} {t w : List Nat} {k : L2.Key} (hk : D.key1 (.str t) = some k) (h : dkget k wL = some (.str w)) : ixD (.obj M.length) (.str t) (M ++ [.dks false wL]) = .ok (.str w) (M ++ [.dks false wL]) := by
  simp only [ixD, dctD, dksD, get_end, ixKs, hk, h]
theorem why1 (M : Mem) : ixD (.obj M.length) (.str [102, 114, 101, 101]) (M ++ [.dks false wL]) = .ok (.str [102, 114, 101, 101]) (M ++ [.dks false wL]) := why_get rfl rfl
theorem why2 (M : Mem) : ixD (.obj M.length) (.str [115, 101, 110, 100]) (M ++ [.dks false wL]) = .ok (.str [102, 117, 108, 108]) (M ++ [.dks false wL]) := why_get rfl rfl
theorem why3 (M : Mem) : ixD (.obj M.length) (.str [104, 101, 97, 114]) (M ++ [.dks false wL]) = .ok (.str [101, 109, 112, 116, 121]) (M ++ [.dks false wL]) := why_get rfl rfl
theorem why4 (M : Mem) : ixD (.obj M.length) (.str [119, 97, 105, 116]) (M ++ [.dks false wL]) = .ok (.str [115, 105, 103, 110, 97, 108]) (M ++ [.dks false wL]) := why_get rfl rfl
theorem why (n : Nat) (H : Hs) (ho : HOk H) (s : St) (wf : Wf H s) (p : Nat) (hp : p < H.rows.length) (M : Mem) : callF tb (n + 3) 32 [eHs H, eSt s, dN p] M = .ok (dO eWhy (whyH H s p)) M := by
  rw [u_32]
  have hl := fun M => line_of (n + 1) H s p hp wf.places M
  have ht := fun l M => thing_of (n + 1) l M
  have hc := fun M => can_step n H ho s wf p hp M
  obtain ⟨rt, hr⟩ := some_at (l := s.rights) (i := p) (by rw [wf.rights]; exact hp)
  cases el : lineOf H s p with
  | none =>
    rw [el] at hl
    simp [b_32, hl, whyH, el]
  | some l =>
    rw [el] at hl
    cases ec : can H s p with
    | true =>
      rw [ec] at hc
      simp [b_32, hl, hc, whyH, el, ec]
    | false =>
      rw [ec] at hc
      obtain ⟨k, hk⟩ := lineOf_ok ho el
      have ec' := ec
      unfold can at ec'
      rw [el] at ec'
      simp only at ec'
      cases l with
      | take b =>
        have hb : dB b < s.owners.length := by rw [wf.owners]; simpa [lnOk, Ln.thing, hasK] using hk
        obtain ⟨o, eo⟩ := some_at hb
        by_cases hm : (⟨.k, b⟩ : Nm) ∈ rt
        · simp [rightOk, hr, Ln.thing, hm, free] at ec'
          cases o <;> simp [b_32, hl, hc, ht, whyH, whyL, el, ec, Ln.thing, Ln.word, Ln.rest, eq_words, okW, hr, rightOk, hm, eWhy, eo]
        · simp [b_32, hl, hc, ht, whyH, el, ec, Ln.thing, Ln.word, Ln.rest, eq_words, okW, hr, rightOk, hm, eWhy]
      | free b =>
        by_cases hm : (⟨.k, b⟩ : Nm) ∈ rt
        · simp [rightOk, hr, Ln.thing, hm, free] at ec'
          simp [b_32, hl, hc, ht, whyH, whyL, el, ec, Ln.thing, Ln.word, Ln.rest, eq_words, okW, hr, rightOk, hm, eWhy, why_dks, why1, why2, why3, why4, -ap_dks]
        · simp [b_32, hl, hc, ht, whyH, el, ec, Ln.thing, Ln.word, Ln.rest, eq_words, okW, hr, rightOk, hm, eWhy]
      | send b =>
        by_cases hm : (⟨.p, b⟩ : Nm) ∈ rt
        · simp [rightOk, hr, Ln.thing, hm, free] at ec'
          simp [b_32, hl, hc, ht, whyH, whyL, el, ec, Ln.thing, Ln.word, Ln.rest, eq_words, okW, hr, rightOk, hm, eWhy, why_dks, why1, why2, why3, why4, -ap_dks]
        · simp [b_32, hl, hc, ht, whyH, el, ec, Ln.thing, Ln.word, Ln.rest, eq_words, okW, hr, rightOk, hm, eWhy]
      | hear b =>
        by_cases hm : (⟨.p, b⟩ : Nm) ∈ rt
        · simp [rightOk, hr, Ln.thing, hm, free] at ec'
          simp [b_32, hl, hc, ht, whyH, whyL, el, ec, Ln.thing, Ln.word, Ln.rest, eq_words, okW, hr, rightOk, hm, eWhy, why_dks, why1, why2, why3, why4, -ap_dks]
        · simp [b_32, hl, hc, ht, whyH, el, ec, Ln.thing, Ln.word, Ln.rest, eq_words, okW, hr, rightOk, hm, eWhy]
      | wait b =>
        by_cases hm : (⟨.s, b⟩ : Nm) ∈ rt
        · simp [rightOk, hr, Ln.thing, hm, free] at ec'
          simp [b_32, hl, hc, ht, whyH, whyL, el, ec, Ln.thing, Ln.word, Ln.rest, eq_words, okW, hr, rightOk, hm, eWhy, why_dks, why1, why2, why3, why4, -ap_dks]
        · simp [b_32, hl, hc, ht, whyH, el, ec, Ln.thing, Ln.word, Ln.rest, eq_words, okW, hr, rightOk, hm, eWhy]
      | wake b =>
        by_cases hm : (⟨.s, b⟩ : Nm) ∈ rt
        · simp [rightOk, hr, Ln.thing, hm, free] at ec'
        · simp [b_32, hl, hc, ht, whyH, el, ec, Ln.thing, Ln.word, Ln.rest, eq_words, okW, hr, rightOk, hm, eWhy]
      | get b =>
        by_cases hm : (⟨.c, b⟩ : Nm) ∈ rt
        · simp [rightOk, hr, Ln.thing, hm, free] at ec'
        · simp [b_32, hl, hc, ht, whyH, el, ec, Ln.thing, Ln.word, Ln.rest, eq_words, okW, hr, rightOk, hm, eWhy]
      | put b =>
        by_cases hm : (⟨.c, b⟩ : Nm) ∈ rt
        · simp [rightOk, hr, Ln.thing, hm, free] at ec'
        · simp [b_32, hl, hc, ht, whyH, el, ec, Ln.thing, Ln.word, Ln.rest, eq_words, okW, hr, rightOk, hm, eWhy]
      | read b =>
        by_cases hm : (⟨.f, b⟩ : Nm) ∈ rt
        · simp [rightOk, hr, Ln.thing, hm, free] at ec'
        · simp [b_32, hl, hc, ht, whyH, el, ec, Ln.thing, Ln.word, Ln.rest, eq_words, okW, hr, rightOk, hm, eWhy]
      | note b =>
        by_cases hm : (⟨.f, b⟩ : Nm) ∈ rt
        · simp [rightOk, hr, Ln.thing, hm, free] at ec'
        · simp [b_32, hl, hc, ht, whyH, el, ec, Ln.thing, Ln.word, Ln.rest, eq_words, okW, hr, rightOk, hm, eWhy]
      | hand q m =>
        by_cases hm : (m : Nm) ∈ rt
        · simp [rightOk, hr, Ln.thing, hm, free] at ec'
        · simp [b_32, hl, hc, ht, whyH, el, ec, Ln.thing, Ln.word, Ln.rest, eq_words, okW, hr, rightOk, hm, eWhy]
      | _ => simp [rightOk, free, Ln.thing] at ec'
end K76

set_option maxHeartbeats 4000000
namespace HT
open PySem RI
open L2 hiding St
/-! ### comprehensions with two clauses -/
theorem lc2_ok {A : Type} {g : MG} {mt : MT} {mi1 : MI} {g1 : MG} {mt1 : MT} {me : ME} {vs1 : List Nat} {F : FT} {r : EV} {enc : A → D} {M : Mem} (sub : A → List D) : ∀ (l : List A) (n : Nat)
    (h : ∀ a ∈ l, (sub a).length ≤ 1000 ∧ ∃ r1 p, g F (enc a) r M = .ok r1 M ∧ mt F r1 M = .ok true M ∧ mi1 F r1 M = .ok p M ∧ p.1.length ≤ 1000 ∧ lcG p.2 g1 mt1 me F (wipeE r1 vs1) p.1 M = .ok (sub a) M), n + l.length * 1000 ≤ LIM →
    lcG2 none g mt mi1 g1 mt1 me vs1 F r (l.map enc) n M = .ok (l.flatMap sub) M
  | [], n, h, hz => rfl
  | a :: l, n, h, hz => by
    obtain ⟨hs, r1, p, e1, e2, e3, hp, e4⟩ := h a List.mem_cons_self
    simp only [List.length_cons] at hz
    have ih := lc2_ok sub l (n + (sub a).length) (fun a ha => h a (List.mem_cons_of_mem _ ha)) (by omega)
    have hn : n + p.1.length ≤ LIM := by omega
    simp only [List.map_cons, lcG2, gd_none, if_true, e1, Res.bind_ok, e2, e3, hn, e4, ih, List.flatMap_cons]
/-! ### names -/
def cnt (H : Hs) : Kd → Nat
  | .c => H.kc
  | .f => H.kf
  | .k => H.kl
  | .p => H.kp.length
  | .s => H.ks
def allKd : List Kd := [.c, .f, .k, .p, .s]
def nmI (k : Kd) (i : Nat) : Nm := ⟨k, decide (i = 1)⟩
def namesL (H : Hs) : List Nm := allKd.flatMap fun k => (List.range (cnt H k)).map (nmI k)
theorem hasK_cnt (H : Hs) (n : Nm) : hasK H n = decide (dB n.ix < cnt H n.kd) := by
  obtain ⟨k, b⟩ := n
  cases k <;> rfl
theorem cnt_le {H : Hs} (ho : HOk H) (k : Kd) : cnt H k ≤ 2 := by
  cases k
  · exact ho.kc
  · exact ho.kf
  · exact ho.kl
  · exact ho.kp.1
  · exact ho.ks
theorem mem_names {H : Hs} (hc : ∀ k, cnt H k ≤ 2) (n : Nm) : n ∈ namesL H ↔ hasK H n = true := by
  rw [hasK_cnt, decide_eq_true_eq]
  unfold namesL
  simp only [List.mem_flatMap, List.mem_map, List.mem_range]
  obtain ⟨k, b⟩ := n
  have h2 := hc k
  constructor
  · rintro ⟨k', _, i, hi, e⟩
    simp only [nmI, Nm.mk.injEq] at e
    obtain ⟨rfl, e⟩ := e
    simp only
    by_cases h : i = 1
    · subst h; simp at e; subst e; exact hi
    · simp [h] at e; subst e; simp only [dB]; simp; omega
  · intro h
    refine ⟨k, by cases k <;> decide, dB b, h, ?_⟩
    cases b <;> simp [nmI, dB]
theorem fmt_ix (i : Nat) (h : i < 2) (M : Mem) : fmtD (dN i) M = .ok (.str [if decide (i = 1) = true then 49 else 48]) M := by
  match i, h with
  | 0, _ => rfl
  | 1, _ => rfl
def kdL (H : Hs) : List (D × D) := [(.str [99], dN H.kc), (.str [102], dN H.kf), (.str [107], dN H.kl), (.str [112], dN H.kp.length), (.str [115], dN H.ks)]
theorem kd_get (H : Hs) (k : Kd) (M : Mem) : ixD (.obj M.length) (.str [k.ch]) (M ++ [.dks false (kdL H)]) = .ok (dN (cnt H k)) (M ++ [.dks false (kdL H)]) := by
  have h : ∃ kk, D.key1 (.str [k.ch]) = some kk ∧ dkget kk (kdL H) = some (dN (cnt H k)) := by
    cases k
    · exact ⟨_, rfl, rfl⟩
    · exact ⟨_, rfl, rfl⟩
    · exact ⟨_, rfl, rfl⟩
    · exact ⟨_, rfl, rfl⟩
    · exact ⟨_, rfl, rfl⟩
  obtain ⟨kk, h1, h2⟩ := h
  simp only [ixD, dctD, dksD, get_end, ixKs, h1, h2]
def eKd (k : Kd) : D := .str [k.ch]
theorem srt_kd : srtL (allKd.map eKd) = allKd.map eKd := List.mergeSort_of_pairwise (by decide)
theorem srtX_kd (H : Hs) (M : Mem) : srtX [.obj M.length] (M ++ [.dks false (kdL H)]) = .ok (.lst (allKd.map eKd)) (M ++ [.dks false (kdL H)]) := by
  have e : (kdL H).map (·.1) = allKd.map eKd := rfl
  have h : dicD (M ++ [.dks false (kdL H)]) (.obj M.length) = some (kdL H) := dicD_dks (lk := false) (by simp)
  have ho : (ordL (allKd.map eKd) && sbl (allKd.map eKd)) = true := by decide
  simp only [srtX, h, e, ho, if_true, srt_kd]
end HT

set_option maxHeartbeats 1000000
namespace K76
open PySem RI HT
open L2 hiding St
theorem kd_dks (H : Hs) (F : FT) (a b c d : Option D) (hb : b = none ∨ True) (M : Mem) : mDks [([99], (mB ixD (mVar 0) (mC (.int 0)))), ([102], (mB ixD (mVar 0) (mC (.int 4)))), ([107], (mB ixD (mVar 0) (mC (.int 1)))), ([112], (mBl lenX (mCons (mB ixD (mVar 0) (mC (.int 2))) mNil))), ([115], (mB ixD (mVar 0) (mC (.int 3))))] F [some (eKinds H), b, c, d] M = .ok (.obj M.length) (M ++ [.dks false (kdL H)]) := by
  simp only [ap_dks, ap_evP0, ap_evP1, ap_c, ap_B, ap_bl, ap_var, ap_cons, ap_nil, List.getElem?_cons_zero, kn0, kn1, kn2, kn3, kn4, len_eTup, Res.bind_ok, Res.noX]
  rw [if_pos]
  · rfl
  · exact ⟨by decide, bels_pure _ _ rfl⟩
theorem names_lc (F : FT) (H : Hs) (k : Kd) (hc : cnt H k ≤ 2) (a b : Option D) (M : Mem) : lcG none lh_2_0 lu_2_0 le_2_0 F [a, b, some (eKd k), none] ((List.range (cnt H k)).map dN) M = .ok (((List.range (cnt H k)).map (nmI k)).map eNm) M := by
  rw [List.map_map]
  exact lc_all (gd := none) (g := lh_2_0) (me := le_2_0) (F := F) (r := [a, b, some (eKd k), none]) (enc := dN) (M := M) rfl (eNm ∘ nmI k) (List.range (cnt H k)) fun i hi => by
    have hi' : i < 2 := by have := List.mem_range.mp hi; omega
    refine ⟨[a, b, some (eKd k), some (dN i)], by simp [lh_2_0], ?_⟩
    have hf := fun M => fmt_ix i hi' M
    simp [le_2_0, eKd, fmt_c, hf, eNm, Nm.txt, nmI]
theorem names_of (n : Nat) (H : Hs) (hc : ∀ k, cnt H k ≤ 2) (M : Mem) : callF tb (n + 1) 2 [eKinds H] M = .ok (.lst ((namesL H).map eNm)) M := by
  rw [u_2]
  have h1 := kd_dks H (callF tb n) none none none none (.inl rfl) M
  have h2 := lc2_ok (g := lg_2_0) (mt := lt_2_0) (mi1 := li_2_0) (g1 := lh_2_0) (mt1 := lu_2_0) (me := le_2_0) (vs1 := [3]) (F := callF tb n) (r := [some (eKinds H), some (.obj M.length), none, none]) (enc := eKd) (M := M ++ [.dks false (kdL H)]) (fun k => ((List.range (cnt H k)).map (nmI k)).map eNm) allKd 0 (fun k _ => by
    have hk := hc k
    refine ⟨by simp; omega, [some (eKinds H), some (.obj M.length), some (eKd k), none], (rngD 0 (cnt H k), none), by simp [lg_2_0], by simp [lt_2_0], ?_, by rw [rng_len]; omega, ?_⟩
    · have hg := kd_get H k M
      have hr : cnt H k ≤ 1000 := by omega
      simp [li_2_0, eKd, hg, hr]
    · have := names_lc (callF tb n) H k hk (some (eKinds H)) (some (.obj M.length)) (M ++ [.dks false (kdL H)])
      simp only [rng0]
      exact this) (by decide)
  have h3 := srtX_kd H M
  have e : allKd.flatMap (fun k => ((List.range (cnt H k)).map (nmI k)).map eNm) = (namesL H).map eNm := by
    unfold namesL
    rw [List.map_flatMap]
  rw [e] at h2
  have hno : D.noObj (.lst ((namesL H).map eNm)) = true := noOs_nm _
  simp [b_2, h1, h3, wipeE, h2, -ap_dks]
theorem in_names (H : Hs) (hc : ∀ k, cnt H k ≤ 2) (n : Nm) (neg : Bool) (M : Mem) : inD neg (eNm n) (.lst ((namesL H).map eNm)) M = .ok (.bl (if neg then !hasK H n else hasK H n)) M := by
  rw [enc_nm.isIn (by decide) (y := .lst ((namesL H).map eNm)) (l := namesL H) rfl neg n]
  have : decide (n ∈ namesL H) = hasK H n := by
    rw [Bool.eq_iff_iff, decide_eq_true_eq]
    exact mem_names hc n
  rw [this]
end K76

set_option maxHeartbeats 1000000
namespace K76
open PySem RI HT
open L2 hiding St
theorem all_true {A : Type} (l : List A) (M : Mem) : allD [.lst (l.map fun _ => D.bl true)] M = .ok (.bl true) M := by
  have : ∀ l : List A, blsD (l.map fun _ => D.bl true) = some (l.map fun _ => true) := by
    intro l
    induction l with
    | nil => rfl
    | cons a l ih => simp only [List.map_cons, blsD, ih, Option.map_some]
  simp only [allD, lstD_lst, Option.bind_some, this]
  congr 2
  simp
theorem cnt_of {H : Hs} (ho : HOk H) (k : Kd) : cnt H k ≤ 2 := cnt_le ho k
theorem check_things (n : Nat) (H : Hs) (ho : HOk H) (M : Mem) : callF tb (n + 2) 1 [eKinds H] M = .ok .non M := by
  rw [u_1]
  have hl : ∀ M', lenX [eKinds H] M' = .ok (.int 5) M' := fun M' => len_of (l := [dN H.kc, dN H.kl, eTup dN H.kp, dN H.ks, dN H.kf]) rfl
  have hk := ho.kp
  have hk1 : H.kp.length ≤ 16777216 := by omega
  have hk2 : ¬ ((2 : Int) < (H.kp.length : Int)) := by omega
  have c0 := fun a b => lc_all (gd := none) (g := lg_1_0) (me := le_1_0) (F := callF tb (n + 1)) (r := [a, b, none]) (enc := dN) (M := M) rfl (fun _ => D.bl true) H.kp fun z hz => by
    have h2 := fun M' => is_from n (z : Int) 1 2 M'
    have h3 := hk.2 z hz
    refine ⟨[a, b, some (dN z)], by simp [lg_1_0], ?_⟩
    have h4 : (1 : Int) ≤ z := by omega
    have h5 : (z : Int) ≤ 2 := by omega
    simp [le_1_0, h2, h4, h5]
  have c1 := fun a b => lc_all (gd := none) (g := lg_1_1) (me := le_1_1) (F := callF tb (n + 1)) (r := [a, none, b]) (enc := dN) (M := M) rfl (fun _ => D.bl true) [H.kc, H.kl, H.ks, H.kf] fun z hz => by
    have h2 := fun M' => is_from n (z : Int) 0 2 M'
    have h3 : z ≤ 2 := by
      have := ho.kc
      have := ho.kl
      have := ho.ks
      have := ho.kf
      simp only [List.mem_cons, List.not_mem_nil, or_false] at hz
      rcases hz with rfl | rfl | rfl | rfl <;> assumption
    refine ⟨[a, some (dN z), b], by simp [lg_1_1], ?_⟩
    have h5 : (z : Int) ≤ 2 := by omega
    simp [le_1_1, h2, h5]
  have a1 := all_true [H.kc, H.kl, H.ks, H.kf] M
  simp only [List.map_cons, List.map_nil] at c1 a1
  simp [b_1, hl, isiB, hk1, hk2, wipeE, lt_1_0, lt_1_1, c0, c1, all_true, a1]
theorem in_words (ws : List (List Nat)) (t : List Nat) (ht : okW t = true) (hw : ws.all okW = true) (neg : Bool) (M : Mem) : inD neg (.str t) (.tup (ws.map .str)) M = .ok (.bl (if neg then !decide (t ∈ ws) else decide (t ∈ ws))) M := by
  have h1 : D.fine 32 (.str t) = true := by rw [fine_str]; exact ht
  have h2 : D.fines 32 (ws.map .str) = true := by
    induction ws with
    | nil => exact fines_nil _
    | cons a ws ih =>
      simp only [List.all_cons, Bool.and_eq_true] at hw
      rw [List.map_cons, fines_cons, ih hw.2, fine_str]
      rw [show (a.all fun x => decide (x < 1114112)) = true from hw.1]
      rfl
  rw [in_fine (l := ws.map .str) rfl h1 h2]
  have : ((ws.map D.str).any fun z => PyData.eqv (D.toP z) (D.toP (.str t))) = decide (t ∈ ws) := by
    rw [List.any_map, Bool.eq_iff_iff]
    simp only [List.any_eq_true, Function.comp, D.toP, PyData.eqv, str_beq, decide_eq_true_eq]
    constructor
    · rintro ⟨b, hb, rfl⟩; exact hb
    · intro hb; exact ⟨t, hb, rfl⟩
  rw [this]
theorem in_plain (t : List Nat) (ht : okW t = true) (M : Mem) : inD false (.str t) (.tup [(.str [109, 97, 114, 107]), (.str [107, 101, 101, 112]), (.str [115, 97, 121]), (.str [115, 116, 111, 112])]) M = .ok (.bl (decide (t ∈ [[109, 97, 114, 107], [107, 101, 101, 112], [115, 97, 121], [115, 116, 111, 112]]))) M := in_words [[109, 97, 114, 107], [107, 101, 101, 112], [115, 97, 121], [115, 116, 111, 112]] t ht (by decide) false M
theorem in_numb (t : List Nat) (ht : okW t = true) (M : Mem) : inD false (.str t) (.tup [(.str [115, 101, 116]), (.str [97, 100, 100])]) M = .ok (.bl (decide (t ∈ [[115, 101, 116], [97, 100, 100]]))) M := in_words [[115, 101, 116], [97, 100, 100]] t ht (by decide) false M
theorem in_jump (t : List Nat) (ht : okW t = true) (M : Mem) : inD false (.str t) (.tup [(.str [122, 101, 114, 111]), (.str [103, 111])]) M = .ok (.bl (decide (t ∈ [[122, 101, 114, 111], [103, 111]]))) M := in_words [[122, 101, 114, 111], [103, 111]] t ht (by decide) false M
theorem eq_ln0 (l : Ln) (M : Mem) : eqD false (eLn l) (.tup []) M = .ok (.bl false) M := by
  have h1 : D.fine 32 (eLn l) = true := by cases l <;> simp [eLn, Ln.word, Ln.rest, fine_str, eNm] <;> (rename_i q m; obtain ⟨k, b⟩ := m; cases k <;> cases b <;> decide)
  rw [eq_fine h1 (by rw [fine_tup]; exact fines_nil _)]
  cases l <;> rfl
theorem eq_t00 (n : Bool) (M : Mem) : eqD n (.tup []) (.tup []) M = .ok (.bl (!n)) M := by
  have := eq_tnil n [] M
  cases n <;> exact this
theorem sl_ln (l : Ln) (M : Mem) : slD (eLn l) (some 1) none M = .ok (.tup l.rest) M := by
  unfold eLn
  rw [slT, cut_1]
  rfl
theorem len_tup (l : List D) (M : Mem) : lenX [.tup l] M = .ok (dN l.length) M := len_of rfl
end K76

set_option maxHeartbeats 1000000
namespace K76
open PySem RI HT
open L2 hiding St
theorem is_line (n : Nat) (H : Hs) (ho : HOk H) (lines : Nat) (hl : lines ≤ 10) (l : Ln) (hk : lnOk H lines l = true) (M : Mem) : callF tb (n + 2) 3 [eLn l, eKinds H, dN (many H), dN lines] M = .ok (.bl true) M := by
  rw [u_3]
  have hf := fun v lo hi M' => is_from n v lo hi M'
  have hn := fun M' => names_of n H (cnt_of ho) M'
  have hin := fun x M' => in_names H (cnt_of ho) x false M'
  have hkd := kd_at l
  have num : ∀ j : Nat, j ≤ 10 → ((j : Int) ≤ 10) := fun j h => by omega
  cases l with
  | set v =>
    have h1 : v < 4 := by simpa [lnOk] using hk
    have h2 : (v : Int) ≤ 10 := by omega
    have h3 : (v : Int) < 4 := by omega
    simp [b_3, eq_ln0, sl_ln, in_plain, in_numb, in_jump, Ln.word, Ln.rest, eq_words, okW, len_tup, hf, ix_tup0, isiB, h2, h3]
  | add v =>
    have h1 : v < 4 := by simpa [lnOk] using hk
    have h2 : (v : Int) ≤ 10 := by omega
    have h3 : (v : Int) < 4 := by omega
    simp [b_3, eq_ln0, sl_ln, in_plain, in_numb, in_jump, Ln.word, Ln.rest, eq_words, okW, len_tup, hf, ix_tup0, isiB, h2, h3]
  | zero v =>
    have h1 : v ≤ lines := by simpa [lnOk] using hk
    have h2 : (v : Int) ≤ 10 := by omega
    simp [b_3, eq_ln0, sl_ln, in_plain, in_numb, in_jump, Ln.word, Ln.rest, eq_words, okW, len_tup, hf, ix_tup0, isiB, h2, h1]
  | go v =>
    have h1 : v ≤ lines := by simpa [lnOk] using hk
    have h2 : (v : Int) ≤ 10 := by omega
    simp [b_3, eq_ln0, sl_ln, in_plain, in_numb, in_jump, Ln.word, Ln.rest, eq_words, okW, len_tup, hf, ix_tup0, isiB, h2, h1]
  | hand q m =>
    have h1 : q < H.rows.length ∧ hasK H m = true := by simpa [lnOk] using hk
    have h2 : (q : Int) ≤ (many H : Int) - 1 := by unfold many; omega
    simp [b_3, eq_ln0, sl_ln, in_plain, in_numb, in_jump, Ln.word, Ln.rest, eq_words, okW, len_tup, hf, ix_tup0, ix_tup1, isiB, hn, hin, h2, h1.2]
  | say => simp [b_3, eq_ln0, sl_ln, in_plain, in_numb, in_jump, Ln.word, Ln.rest, eq_words, okW, isiB, eq_t00]
  | stop => simp [b_3, eq_ln0, sl_ln, in_plain, in_numb, in_jump, Ln.word, Ln.rest, eq_words, okW, isiB, eq_t00]
  | mark => simp [b_3, eq_ln0, sl_ln, in_plain, in_numb, in_jump, Ln.word, Ln.rest, eq_words, okW, isiB, eq_t00]
  | keep => simp [b_3, eq_ln0, sl_ln, in_plain, in_numb, in_jump, Ln.word, Ln.rest, eq_words, okW, isiB, eq_t00]
  | get b =>
    have h1 : hasK H ⟨.c, b⟩ = true := by simpa [lnOk, Ln.thing] using hk
    have h2 : ((dB b : Nat) : Int) ≤ 10 := by cases b <;> decide
    have h3 := fun M' => hin ⟨.c, b⟩ M'
    simp only [eNm, Nm.txt, Kd.ch, h1] at h3
    simp only [Ln.word, kdOf, Option.map_some] at hkd
    simp [b_3, eq_ln0, sl_ln, in_plain, in_numb, in_jump, Ln.word, Ln.rest, eq_words, okW, len_tup, hf, ix_tup0, isiB, h2, hkd, fmt_b, fmt_c, hn, h3]
  | put b =>
    have h1 : hasK H ⟨.c, b⟩ = true := by simpa [lnOk, Ln.thing] using hk
    have h2 : ((dB b : Nat) : Int) ≤ 10 := by cases b <;> decide
    have h3 := fun M' => hin ⟨.c, b⟩ M'
    simp only [eNm, Nm.txt, Kd.ch, h1] at h3
    simp only [Ln.word, kdOf, Option.map_some] at hkd
    simp [b_3, eq_ln0, sl_ln, in_plain, in_numb, in_jump, Ln.word, Ln.rest, eq_words, okW, len_tup, hf, ix_tup0, isiB, h2, hkd, fmt_b, fmt_c, hn, h3]
  | take b =>
    have h1 : hasK H ⟨.k, b⟩ = true := by simpa [lnOk, Ln.thing] using hk
    have h2 : ((dB b : Nat) : Int) ≤ 10 := by cases b <;> decide
    have h3 := fun M' => hin ⟨.k, b⟩ M'
    simp only [eNm, Nm.txt, Kd.ch, h1] at h3
    simp only [Ln.word, kdOf, Option.map_some] at hkd
    simp [b_3, eq_ln0, sl_ln, in_plain, in_numb, in_jump, Ln.word, Ln.rest, eq_words, okW, len_tup, hf, ix_tup0, isiB, h2, hkd, fmt_b, fmt_c, hn, h3]
  | free b =>
    have h1 : hasK H ⟨.k, b⟩ = true := by simpa [lnOk, Ln.thing] using hk
    have h2 : ((dB b : Nat) : Int) ≤ 10 := by cases b <;> decide
    have h3 := fun M' => hin ⟨.k, b⟩ M'
    simp only [eNm, Nm.txt, Kd.ch, h1] at h3
    simp only [Ln.word, kdOf, Option.map_some] at hkd
    simp [b_3, eq_ln0, sl_ln, in_plain, in_numb, in_jump, Ln.word, Ln.rest, eq_words, okW, len_tup, hf, ix_tup0, isiB, h2, hkd, fmt_b, fmt_c, hn, h3]
  | send b =>
    have h1 : hasK H ⟨.p, b⟩ = true := by simpa [lnOk, Ln.thing] using hk
    have h2 : ((dB b : Nat) : Int) ≤ 10 := by cases b <;> decide
    have h3 := fun M' => hin ⟨.p, b⟩ M'
    simp only [eNm, Nm.txt, Kd.ch, h1] at h3
    simp only [Ln.word, kdOf, Option.map_some] at hkd
    simp [b_3, eq_ln0, sl_ln, in_plain, in_numb, in_jump, Ln.word, Ln.rest, eq_words, okW, len_tup, hf, ix_tup0, isiB, h2, hkd, fmt_b, fmt_c, hn, h3]
  | hear b =>
    have h1 : hasK H ⟨.p, b⟩ = true := by simpa [lnOk, Ln.thing] using hk
    have h2 : ((dB b : Nat) : Int) ≤ 10 := by cases b <;> decide
    have h3 := fun M' => hin ⟨.p, b⟩ M'
    simp only [eNm, Nm.txt, Kd.ch, h1] at h3
    simp only [Ln.word, kdOf, Option.map_some] at hkd
    simp [b_3, eq_ln0, sl_ln, in_plain, in_numb, in_jump, Ln.word, Ln.rest, eq_words, okW, len_tup, hf, ix_tup0, isiB, h2, hkd, fmt_b, fmt_c, hn, h3]
  | wake b =>
    have h1 : hasK H ⟨.s, b⟩ = true := by simpa [lnOk, Ln.thing] using hk
    have h2 : ((dB b : Nat) : Int) ≤ 10 := by cases b <;> decide
    have h3 := fun M' => hin ⟨.s, b⟩ M'
    simp only [eNm, Nm.txt, Kd.ch, h1] at h3
    simp only [Ln.word, kdOf, Option.map_some] at hkd
    simp [b_3, eq_ln0, sl_ln, in_plain, in_numb, in_jump, Ln.word, Ln.rest, eq_words, okW, len_tup, hf, ix_tup0, isiB, h2, hkd, fmt_b, fmt_c, hn, h3]
  | wait b =>
    have h1 : hasK H ⟨.s, b⟩ = true := by simpa [lnOk, Ln.thing] using hk
    have h2 : ((dB b : Nat) : Int) ≤ 10 := by cases b <;> decide
    have h3 := fun M' => hin ⟨.s, b⟩ M'
    simp only [eNm, Nm.txt, Kd.ch, h1] at h3
    simp only [Ln.word, kdOf, Option.map_some] at hkd
    simp [b_3, eq_ln0, sl_ln, in_plain, in_numb, in_jump, Ln.word, Ln.rest, eq_words, okW, len_tup, hf, ix_tup0, isiB, h2, hkd, fmt_b, fmt_c, hn, h3]
  | read b =>
    have h1 : hasK H ⟨.f, b⟩ = true := by simpa [lnOk, Ln.thing] using hk
    have h2 : ((dB b : Nat) : Int) ≤ 10 := by cases b <;> decide
    have h3 := fun M' => hin ⟨.f, b⟩ M'
    simp only [eNm, Nm.txt, Kd.ch, h1] at h3
    simp only [Ln.word, kdOf, Option.map_some] at hkd
    simp [b_3, eq_ln0, sl_ln, in_plain, in_numb, in_jump, Ln.word, Ln.rest, eq_words, okW, len_tup, hf, ix_tup0, isiB, h2, hkd, fmt_b, fmt_c, hn, h3]
  | note b =>
    have h1 : hasK H ⟨.f, b⟩ = true := by simpa [lnOk, Ln.thing] using hk
    have h2 : ((dB b : Nat) : Int) ≤ 10 := by cases b <;> decide
    have h3 := fun M' => hin ⟨.f, b⟩ M'
    simp only [eNm, Nm.txt, Kd.ch, h1] at h3
    simp only [Ln.word, kdOf, Option.map_some] at hkd
    simp [b_3, eq_ln0, sl_ln, in_plain, in_numb, in_jump, Ln.word, Ln.rest, eq_words, okW, len_tup, hf, ix_tup0, isiB, h2, hkd, fmt_b, fmt_c, hn, h3]
end K76

set_option maxHeartbeats 1000000
namespace K76
open PySem RI HT
open L2 hiding St
theorem foldS_unit {A : Type} (l : List A) : foldS (R := Empty) (fun (_ : Unit) (_ : A) => .inr ()) () l = .inr () := foldS_inr (fun _ _ => ()) l ()
theorem lines_ok (n : Nat) (H : Hs) (ho : HOk H) (r : List Ln) (hr : r.length ≤ 10) (hl : ∀ l ∈ r, lnOk H r.length l = true) (a e f : Option D) (M : Mem) : ∃ e' f', forG none fg_4_0 fb_4_0 (callF tb (n + 2)) (enumD 0 (r.map eLn)) [some (eRows H.rows), some (eKinds H), a, some (eTup eLn r), e, f] M = .ok (.next [some (eRows H.rows), some (eKinds H), a, some (eTup eLn r), e', f']) M := by
  rw [enum_map]
  have h := for_ok (gd := none) (g := fg_4_0) (b := fb_4_0) (F := callF tb (n + 2)) (enc := fun q : Ln × Nat => .tup [dN q.2, eLn q.1]) (fun (_ : Unit) R M' => M' = M ∧ ∃ e f, R = [some (eRows H.rows), some (eKinds H), a, some (eTup eLn r), e, f]) (fun (_ : Empty) _ _ => False) (fun _ _ => .inr ()) (fun _ _ _ _ => rfl) (r.zipIdx) (fun _ q R M' hq i => by
    obtain ⟨rfl, e, f, rfl⟩ := i
    have hm : q.1 ∈ r := List.fst_mem_of_mem_zipIdx hq
    have h1 := is_line n H ho r.length hr q.1 (hl _ hm) M'
    have h2 := lenRows H M'
    exact ⟨[some (eRows H.rows), some (eKinds H), a, some (eTup eLn r), some (dN q.2), some (eLn q.1)], M', .inl (by simp [fg_4_0, fb_4_0, h1, h2]), rfl, _, _, rfl⟩) () [some (eRows H.rows), some (eKinds H), a, some (eTup eLn r), e, f] M ⟨rfl, e, f, rfl⟩
  rw [foldS_unit] at h
  obtain ⟨R', M', e1, rfl, e2, f2, rfl⟩ := h
  exact ⟨e2, f2, e1⟩
theorem check_programs (n : Nat) (H : Hs) (ho : HOk H) (M : Mem) : callF tb (n + 3) 4 [eRows H.rows, eKinds H] M = .ok .non M := by
  rw [u_4]
  have h := for_ok (gd := none) (g := fg_4_1) (b := fb_4_1) (F := callF tb (n + 2)) (enc := fun q : List Ln × Nat => .tup [dN q.2, eTup eLn q.1]) (fun (_ : Unit) R M' => M' = M ∧ ∃ a b e f, R = [some (eRows H.rows), some (eKinds H), a, b, e, f]) (fun (_ : Empty) _ _ => False) (fun _ _ => .inr ()) (fun _ _ _ _ => rfl) (H.rows.zipIdx) (fun _ q R M' hq i => by
    obtain ⟨rfl, a, b, e, f, rfl⟩ := i
    have hm : q.1 ∈ H.rows := List.fst_mem_of_mem_zipIdx hq
    obtain ⟨g1, g2, g3⟩ := ho.lines q.1 hm
    obtain ⟨e', f', h1⟩ := lines_ok n H ho q.1 g2 g3 (some (dN q.2)) e f M'
    have i1 : (1 : Int) ≤ (q.1.length : Int) := by omega
    have i2 : (q.1.length : Int) ≤ 10 := by omega
    exact ⟨[some (eRows H.rows), some (eKinds H), some (dN q.2), some (eTup eLn q.1), e', f'], M', .inl (by simp [fg_4_1, fb_4_1, isiB, i1, i2, h1]), rfl, _, _, _, _, rfl⟩) () [some (eRows H.rows), some (eKinds H), none, none, none, none] M ⟨rfl, _, _, _, _, rfl⟩
  rw [foldS_unit] at h
  obtain ⟨R', M', e1, rfl, a, b, e2, f2, rfl⟩ := h
  have hm := ho.many
  have i1 : (1 : Int) ≤ (many H : Int) := by unfold many; omega
  have i2 : (many H : Int) ≤ 3 := by unfold many; omega
  have e0 : enumI [eRows H.rows] M' = .ok (H.rows.zipIdx.map fun q => .tup [dN q.2, eTup eLn q.1], none) M' := by
    unfold eRows
    rw [enumI_eTup, enum_map]
  simp [b_4, isiB, lenRows, i1, i2, e0, e1]
theorem lt_nm (a b : Nm) (M : Mem) : ltD (eNm a) (eNm b) M = .ok (.bl (PySem.W.dataLt (D.toP (eNm a)) (D.toP (eNm b)))) M := by
  simp [ltD, ordD, eNm, derefD, D.noN, D.toP, PyData.depth, PySem.W.alike]
theorem zip_map (a b : List Nm) : zipD (a.map eNm) (b.map eNm) = (a.zip b).map fun q => .tup [eNm q.1, eNm q.2] := by
  induction a generalizing b with
  | nil => simp [zipD]
  | cons x a ih => cases b with
    | nil => simp [zipD]
    | cons y b => simp [zipD, ih b]
theorem zip_next {A : Type} {R : A → A → Prop} : ∀ {l : List A}, l.Pairwise R → ∀ q ∈ l.zip (l.drop 1), R q.1 q.2
  | [], _, q, h => by simp at h
  | [a], _, q, h => by simp at h
  | a :: b :: l, hp, q, h => by
    rw [List.pairwise_cons] at hp
    simp only [List.drop_succ_cons, List.drop_zero, List.zip_cons_cons, List.mem_cons] at h
    rcases h with rfl | h
    · exact hp.1 b List.mem_cons_self
    · exact zip_next hp.2 q (by simpa using h)
theorem check_rights (n : Nat) (H : Hs) (ho : HOk H) (M : Mem) : callF tb (n + 2) 5 [eRights H.given, eKinds H, dN (many H)] M = .ok .non M := by
  rw [u_5]
  have h := for_ok (gd := none) (g := fg_5_2) (b := fb_5_2) (F := callF tb (n + 1)) (enc := fun q : List Nm × Nat => .tup [dN q.2, eTup eNm q.1]) (fun (_ : Unit) R M' => M' = M ∧ ∃ a b c d e, R = [some (eRights H.given), some (eKinds H), some (dN (many H)), a, b, c, d, e]) (fun (_ : Empty) _ _ => False) (fun _ _ => .inr ()) (fun _ _ _ _ => rfl) (H.given.zipIdx) (fun _ q R M' hq i => by
    obtain ⟨rfl, a, b, c, d, e, rfl⟩ := i
    have hm : q.1 ∈ H.given := List.fst_mem_of_mem_zipIdx hq
    obtain ⟨g1, g2⟩ := ho.names q.1 hm
    have hlen : q.1.length ≤ 10 := nodup_le (g2.imp fun {a b} h e => by subst e; exact absurd h (by obtain ⟨k, i⟩ := a; cases k <;> cases i <;> decide))
    have l1 : q.1.length ≤ 16777216 := by omega
    have l2 : min q.1.length (q.1.length - 1) ≤ 16777216 := by omega
    have c0 := fun a b d e => lc_all (gd := none) (g := lg_5_0) (me := le_5_0) (F := callF tb (n + 1)) (r := [some (eRights H.given), some (eKinds H), a, b, some (eTup eNm q.1), none, d, e]) (enc := eNm) (M := M') rfl (fun _ => D.bl true) q.1 fun x hx => by
      have h2 := fun M' => names_of n H (cnt_of ho) M'
      have h3 := fun M' => in_names H (cnt_of ho) x false M'
      refine ⟨[some (eRights H.given), some (eKinds H), a, b, some (eTup eNm q.1), some (eNm x), d, e], by simp [lg_5_0], ?_⟩
      simp [le_5_0, h2, h3, isiB, g1 x hx]
    have c1 := fun a b d => lc_all (gd := none) (g := lg_5_1) (me := le_5_1) (F := callF tb (n + 1)) (r := [some (eRights H.given), some (eKinds H), a, b, some (eTup eNm q.1), d, none, none]) (enc := fun x : Nm × Nm => .tup [eNm x.1, eNm x.2]) (M := M') rfl (fun _ => D.bl true) (q.1.zip (q.1.drop 1)) fun x hx => by
      have h3 := zip_next g2 x hx
      refine ⟨[some (eRights H.given), some (eKinds H), a, b, some (eTup eNm q.1), d, some (eNm x.1), some (eNm x.2)], by simp [lg_5_1], ?_⟩
      simp [le_5_1, lt_nm, h3]
    have a0 := fun M => all_true q.1 M
    have a1 := fun M => all_true (q.1.zip (q.1.drop 1)) M
    have hz := zip_map q.1 (q.1.drop 1)
    have lz : (zipD (q.1.map eNm) ((q.1.drop 1).map eNm)).length ≤ 16777216 := by rw [zipD_len, List.length_map, List.length_map, List.length_drop]; exact l2
    rw [hz] at lz
    exact ⟨[some (eRights H.given), some (eKinds H), some (dN (many H)), some (dN q.2), some (eTup eNm q.1), c, d, e], M', .inl (by
      simp [fg_5_2, fb_5_2, isiB, l1, wipeE, lt_5_0, lt_5_1, c0, a0, -List.map_drop, -List.drop_one]
      rw [hz, if_pos lz, c1]
      simp only [Res.noX, Res.bind_ok, a1, truD_bl, Bool.not_true, Bool.false_eq_true, if_false, Res.toS]), rfl, _, _, _, _, _, rfl⟩) () [some (eRights H.given), some (eKinds H), some (dN (many H)), none, none, none, none, none] M ⟨rfl, _, _, _, _, _, rfl⟩
  rw [foldS_unit] at h
  obtain ⟨R', M', e1, rfl, a, b, c, d, e2, rfl⟩ := h
  have e0 : enumI [eRights H.given] M' = .ok (H.given.zipIdx.map fun q => .tup [dN q.2, eTup eNm q.1], none) M' := by
    unfold eRights
    rw [enumI_eTup, enum_map]
  have hl : lenX [eRights H.given] M' = .ok (dN (many H)) M' := by
    unfold eRights many
    rw [len_eTup, ho.given]
  simp [b_5, isiB, hl, e0, e1]
theorem check_rule (n : Nat) (H : Hs) (M : Mem) : callF tb (n + 1) 6 [eWay H] M = .ok .non M := by
  rw [u_6]
  have hl : ∀ M', lenX [eWay H] M' = .ok (.int 2) M' := fun M' => len_of (l := [.str H.ord.txt, .str (mkTxt H.all)]) rfl
  have hi : ∀ M', itD (eWay H) M' = .ok ([.str H.ord.txt, .str (mkTxt H.all)], none) M' := fun _ => rfl
  have c0 : lcG none lg_6_0 mYes le_6_0 (callF tb n) [some (eWay H), none] [.str H.ord.txt, .str (mkTxt H.all)] M = .ok [.bl true, .bl true] M := by
    simp [lcG, lg_6_0, le_6_0, isiB]
  have a0 : allD [.lst [.bl true, .bl true]] M = .ok (.bl true) M := all_true [(), ()] M
  have w1 : inD true (.str H.ord.txt) (.tup [(.str [97, 110, 121]), (.str [114, 105, 110, 103]), (.str [114, 97, 110, 107]), (.str [108, 101, 110, 116])]) M = .ok (.bl false) M := by
    rw [show (D.tup [(.str [97, 110, 121]), (.str [114, 105, 110, 103]), (.str [114, 97, 110, 107]), (.str [108, 101, 110, 116])]) = .tup ([[97, 110, 121], [114, 105, 110, 103], [114, 97, 110, 107], [108, 101, 110, 116]].map .str) from rfl, in_words _ _ (okW_ord _) (by decide)]
    cases H.ord <;> simp [Od.txt]
  have w2 : inD true (.str (mkTxt H.all)) (.tup [(.str [111, 119, 110]), (.str [97, 108, 108])]) M = .ok (.bl false) M := by
    rw [show (D.tup [(.str [111, 119, 110]), (.str [97, 108, 108])]) = .tup ([[111, 119, 110], [97, 108, 108]].map .str) from rfl, in_words _ _ (by cases H.all <;> rfl) (by decide)]
    cases H.all <;> simp [mkTxt]
  simp [b_6, isiB, hl, hi, wipeE, lt_6_0, c0, a0, w1, w2]
def hFs (H : Hs) : List (Str × D) := [("rows", eRows H.rows), ("kinds", eKinds H), ("given", eRights H.given), ("way", eWay H)]
theorem set_fl {f c : Str} {v : D} {fs : List (Str × D)} {M : Mem} (hc : tFld.contains (c, f) = true) (hb : ∀ k, D.bel k v = true) (hl : fs.length ≤ 999) : setFD tFld f v (.obj M.length) (M ++ [.ins c fs]) = .ok () (M ++ [.ins c (putD f v fs)]) := by
  simp only [setFD, get_end, hc, hb, Nat.ble_eq.mpr hl, Bool.and_self, if_true, set_end]
theorem init (n : Nat) (H : Hs) (ho : HOk H) (M : Mem) : callF tb (n + 4) 8 [.obj M.length, eRows H.rows, eKinds H, eRights H.given, eWay H] (M ++ [.ins "House" []]) = .ok .non (M ++ [.ins "House" (hFs H)]) := by
  rw [u_8]
  have h1 := fun M' => check_things (n + 1) H ho M'
  have h2 := fun M' => check_programs n H ho M'
  have h3 := fun M' => check_rights (n + 1) H ho M'
  have h4 := fun M' => check_rule (n + 2) H M'
  have hb1 : ∀ k, D.bel k (eRows H.rows) = true := fun k => bel_pure _ _ (noO_t9 _)
  have hb2 : ∀ k, D.bel k (eKinds H) = true := fun k => bel_pure _ _ (by simp [eKinds])
  have hb3 : ∀ k, D.bel k (eRights H.given) = true := fun k => bel_pure _ _ (noO_t7 _)
  have hb4 : ∀ k, D.bel k (eWay H) = true := fun k => bel_pure _ _ (by simp [eWay])
  have s1 : setFD tFld "rows" (eRows H.rows) (.obj M.length) (M ++ [.ins "House" []]) = .ok () (M ++ [.ins "House" [("rows", eRows H.rows)]]) := set_fl (by decide) hb1 (by decide)
  have s2 : setFD tFld "kinds" (eKinds H) (.obj M.length) (M ++ [.ins "House" [("rows", eRows H.rows)]]) = .ok () (M ++ [.ins "House" [("rows", eRows H.rows), ("kinds", eKinds H)]]) := set_fl (by decide) hb2 (by simp)
  have s3 : setFD tFld "given" (eRights H.given) (.obj M.length) (M ++ [.ins "House" [("rows", eRows H.rows), ("kinds", eKinds H)]]) = .ok () (M ++ [.ins "House" [("rows", eRows H.rows), ("kinds", eKinds H), ("given", eRights H.given)]]) := set_fl (by decide) hb3 (by simp)
  have s4 : setFD tFld "way" (eWay H) (.obj M.length) (M ++ [.ins "House" [("rows", eRows H.rows), ("kinds", eKinds H), ("given", eRights H.given)]]) = .ok () (M ++ [.ins "House" (hFs H)]) := set_fl (by decide) hb4 (by simp)
  simp [b_8, h1, h2, h3, h4, lenRows, s1, s2, s3, s4]
end K76

set_option maxHeartbeats 1000000
namespace K76
open PySem RI HT
open L2 hiding St
/-- the dict of a house in memory -/
theorem hd_get {M : Mem} {j : Nat} {H : Hs} {t : List Nat} {k : L2.Key} {d : D} (h : M[j]? = some (.dks false (hDks H))) (hk : D.key1 (.str t) = some k) (hg : dkget k (hDks H) = some d) : ixD (.obj j) (.str t) M = .ok d M := by
  simp only [ixD, dctD, dksD, h, ixKs, hk, hg]
theorem hd_rows {M : Mem} {j : Nat} {H : Hs} (h : M[j]? = some (.dks false (hDks H))) : ixD (.obj j) (.str [114, 111, 119, 115]) M = .ok (eRows H.rows) M := hd_get h rfl rfl
theorem hd_kinds {M : Mem} {j : Nat} {H : Hs} (h : M[j]? = some (.dks false (hDks H))) : ixD (.obj j) (.str [107, 105, 110, 100, 115]) M = .ok (eKinds H) M := hd_get h rfl rfl
theorem hd_given {M : Mem} {j : Nat} {H : Hs} (h : M[j]? = some (.dks false (hDks H))) : ixD (.obj j) (.str [103, 105, 118, 101, 110]) M = .ok (eRights H.given) M := hd_get h rfl rfl
theorem hd_way {M : Mem} {j : Nat} {H : Hs} (h : M[j]? = some (.dks false (hDks H))) : ixD (.obj j) (.str [119, 97, 121]) M = .ok (eWay H) M := hd_get h rfl rfl
theorem noO_hs (H : Hs) : D.noObjs [eRows H.rows, eKinds H, eRights H.given, eWay H] = true := by
  have h1 : D.noObj (eRows H.rows) = true := noO_t9 _
  have h2 : D.noObj (eKinds H) = true := by simp [eKinds]
  have h3 : D.noObj (eRights H.given) = true := noO_t7 _
  have h4 : D.noObj (eWay H) = true := by simp [eWay]
  simp only [D.noObjs, h1, h2, h3, h4, Bool.and_self]
theorem fin_hs (H : Hs) (M : Mem) : fin false M.length (.obj M.length) (M ++ [.ins "House" (hFs H)]) = .ok (eHs H) M := by
  have h1 : frzM (M ++ [.ins "House" (hFs H)]) M.length 3 M.length = eHs H := by
    simp only [frzM, Nat.lt_irrefl, if_false, get_end]
    rw [frzs_pure]
    · rfl
    · exact noO_hs H
  have h2 : D.bel M.length (eHs H) = true := by
    show D.bel M.length (.ins _ _ _) = true
    simp only [D.bel]
    exact bels_pure _ _ (noO_hs H)
  have h3 : (M ++ [MO.ins "House" (hFs H)]).take M.length = M := by simp
  unfold fin
  simp only [D.frz, h1, h2, h3, if_true, Bool.false_eq_true, if_false]
theorem made (n : Nat) (H : Hs) (ho : HOk H) (j : Nat) (M : Mem) (h : M[j]? = some (.dks false (hDks H))) : callF tb (n + 5) 40 [.obj j] M = .ok (eHs H) M := by
  rw [u_40]
  have h5 := init n H ho M
  simp [b_40, hd_rows h, hd_kinds h, hd_given h, hd_way h, h5, fin_hs]
theorem nice_why : Nice (dO eWhy) := by
  have hs : ∀ n : Nm, (n.txt.all fun x => decide (x < 1114112)) = true := by
    intro n
    obtain ⟨k, b⟩ := n
    cases k <;> cases b <;> decide
  refine ⟨fun w => ?_, fun w => ?_, fun w => ?_⟩
  · cases w with
    | none => rfl
    | some w => cases w <;> simp [eWhy]
  · cases w with
    | none => rfl
    | some w =>
      cases w <;> simp [eWhy, D.toP, D.toPs, PyData.canLay0, PyData.canLayAll0, PyData.strOk, eNm, hs]
      rename_i n o
      cases o <;> simp [D.toP, PyData.canLay0]
  · cases w with
    | none => simp [D.toP, PyData.depth]
    | some w =>
      cases w <;> simp [eWhy, D.toP, D.toPs, PyData.depth, PyData.depthAll, eNm]
      rename_i n o
      cases o <;> simp [D.toP, PyData.depth]
def waitH (H : Hs) (s : St) : List (Option Why) := (List.range (many H)).map (whyH H s)
theorem waiting (n : Nat) (H : Hs) (ho : HOk H) (s : St) (wf : Wf H s) (M : Mem) : callF tb (n + 4) 33 [eHs H, eSt s] M = .ok (.lst ((waitH H s).map (dO eWhy))) M := by
  rw [u_33]
  have hm := ho.many
  have hm1 : many H ≤ 1000 := by unfold many; omega
  have hm2 : many H ≤ 16777216 := by omega
  have c0 := lc_all (gd := none) (g := lg_33_0) (me := le_33_0) (F := callF tb (n + 3)) (r := [some (eHs H), some (eSt s), none]) (enc := dN) (M := M) rfl (fun p => dO eWhy (whyH H s p)) (List.range (many H)) fun p hp => by
    have h1 := fun M' => why n H ho s wf p (List.mem_range.mp hp) M'
    exact ⟨[some (eHs H), some (eSt s), some (dN p)], by simp [lg_33_0], by simp [le_33_0, h1]⟩
  have e : (waitH H s).map (dO eWhy) = (List.range (many H)).map fun p => dO eWhy (whyH H s p) := by
    unfold waitH
    rw [List.map_map]
    rfl
  rw [e]
  have hn : D.noObj (.lst ((List.range (many H)).map fun p => dO eWhy (whyH H s p))) = true := noObjs_map _ (fun p => nice_why.no _) _
  simp [b_33, fld_eq, lenRows, hm1, hm2, rng0, rng_len, wipeE, lt_33_0, c0]
  exact fin_same hn
end K76

set_option maxHeartbeats 4000000
namespace HT
open PySem RI
open L2 hiding St
/-! ### draws of the laws -/
def memP (c : List Int) (i b s : Int) (X : Mem) : Mem := .lst [.lst (c.map D.int), .int i, .int b, .int s] :: X
def HP (M X : Mem) : Prop := ∃ c i b s, 0 ≤ i ∧ 0 ≤ b ∧ c.length ≤ 63 ∧ M = memP c i b s X
section
variable {c : List Int} {i b s v : Int} {X : Mem}
theorem ixP0 : ixD (.obj 0) (.int 0) (memP c i b s X) = .ok (.lst (c.map D.int)) (memP c i b s X) := ix_get (l := [.lst (c.map D.int), .int i, .int b, .int s]) rfl (at_0 _ _)
theorem ixP1 : ixD (.obj 0) (.int 1) (memP c i b s X) = .ok (.int i) (memP c i b s X) := ix_get (l := [.lst (c.map D.int), .int i, .int b, .int s]) rfl (at_1 _ _ _)
theorem ixP2 : ixD (.obj 0) (.int 2) (memP c i b s X) = .ok (.int b) (memP c i b s X) := ix_get (l := [.lst (c.map D.int), .int i, .int b, .int s]) rfl (at_2 _ _ _ _)
theorem ixP3 : ixD (.obj 0) (.int 3) (memP c i b s X) = .ok (.int s) (memP c i b s X) := ix_get (l := [.lst (c.map D.int), .int i, .int b, .int s]) rfl (atI_nat (j := 3) rfl)
theorem ixN_4_1 : ixN 4 1 = some 1 := by decide
theorem ixN_4_2 : ixN 4 2 = some 2 := by decide
theorem ixN_4_3 : ixN 4 3 = some 3 := by decide
theorem setP1 : setD (.obj 0) (.int 1) (.int v) (memP c i b s X) = .ok () (memP c v b s X) := by
  rw [setD_S rfl]; simp [setS, memP, ixN_4_1, D.bel]
theorem setP2 : setD (.obj 0) (.int 2) (.int v) (memP c i b s X) = .ok () (memP c i v s X) := by
  rw [setD_S rfl]; simp [setS, memP, ixN_4_2, D.bel]
theorem setP3 : setD (.obj 0) (.int 3) (.int v) (memP c i b s X) = .ok () (memP c i b v X) := by
  rw [setD_S rfl]; simp [setS, memP, ixN_4_3, D.bel]
theorem lenP : ∀ M, lenX [.lst (c.map D.int)] M = .ok (.int c.length) M := fun M => by rw [len_of (l := c.map .int) rfl]; simp
theorem mulP (j : Int) (k : Int) (h : Nat.ble k.natAbs 18446744073709551615 = true) (M : Mem) : mulT (.int j) (.int k) M = .ok (.int (j * k)) M := mul_ii (cmul_s h) M
theorem fin_memP {c' : List Int} {i' b' s' r : Int} : fin false (memP c i b s X).length (.int r) (memP c' i' b' s' X) = .ok (.int r) (memP c' i' b' s' X) := by
  have e : (memP c i b s X).length = (memP c' i' b' s' X).length := rfl
  rw [e]
  exact fin_same rfl
end
end HT

set_option maxHeartbeats 1000000
namespace K76
open PySem RI HT
open L2 hiding St
theorem draws (n : Nat) (c : List Int) (M : Mem) : callF tb (n + 1) 34 [.lst (c.map D.int)] [] = .ok (.obj 0) (memP c 0 0 7 []) := by
  rw [u_34]
  have h1 : ∀ M, toLstX false [.lst (c.map D.int)] M = .ok (.lst (c.map D.int)) M := fun M => toLst_of rfl
  have h2 : newO [.lst (c.map D.int), .int 0, .int 0, .int 7] [] = .ok (.obj 0) (memP c 0 0 7 []) := newO_pure (by simp) []
  simp [b_34, h1, h2]
theorem pick_ok (n : Nat) (b : Nat) (h1 : 1 ≤ b) (h2 : b < 1073741824) (M X : Mem) (h : HP M X) : ∃ (r : Nat) (M' : Mem), r < b ∧ HP M' X ∧ callF tb (n + 1) 35 [.obj 0, dN b] M = .ok (dN r) M' := by
  suffices hs : ∃ (r : Int) (M' : Mem), 0 ≤ r ∧ r < (b : Int) ∧ HP M' X ∧ callF tb (n + 1) 35 [.obj 0, dN b] M = .ok (.int r) M' by
    obtain ⟨r, M', h3, h4, h5, h6⟩ := hs
    refine ⟨r.toNat, M', by omega, h5, ?_⟩
    rw [h6]
    show _ = Res.ok (D.int (r.toNat : Int)) M'
    rw [Int.toNat_of_nonneg h3]
  obtain ⟨c, i, bb, s, hi, hbb, hc, rfl⟩ := h
  rw [u_35]
  have hb0 : (0 : Int) < (b : Int) := by omega
  have hb1 : (b : Int) < 1073741824 := by omega
  have hn0 : 0 < b := h1
  have hb2 : ¬ (b : Int) = 0 := by omega
  have e0 := fun x : Int => Int.emod_nonneg x hb2
  have e1 := fun x : Int => Int.emod_lt_of_pos x hb0
  have hp := fun M => pow_10 M
  have hm1 := fun M (j : Int) => mulP j 48271 rfl M
  have hm2 := fun M (j : Int) => mulP j 69621 rfl M
  have hm3 := fun M (j : Int) => mulP j 16807 rfl M
  have hl := fun M => lenP (c := c) M
  by_cases hz : bb = 0
  · subst hz
    by_cases hk : i < (c.length : Int)
    · have hix : ∀ M, ixD (.lst (c.map D.int)) (.int i) M = .ok (.int (c[i.toNat]'(by omega))) M := fun M => ix_get (l := c.map .int) rfl (by rw [at_nat hi (by simpa using hk), List.getElem_map])
      generalize (c[i.toNat]'(by omega)) = cell at hix
      by_cases hg : (1000000000000000000 : Int) ≤ cell
      · have hcp : 0 < cell := by omega
        refine ⟨cell % b, memP c (i + 1) (cell / b) s X, e0 _, e1 _, ⟨c, i + 1, cell / b, s, by omega, Int.ediv_nonneg (by omega) (by omega), hc, rfl⟩, ?_⟩
        simp [b_35, ixP0, ixP1, ixP2, ixP3, setP1, setP2, setP3, hl, hix, hk, hp, hg, hcp, hb0, hb1, hn0, h2, fin_memP]
      · refine ⟨(s * 48271 + cell * 69621 + 11) % 2147483647 * 16807 % 2147483629 % b, memP c (i + 1) 0 ((s * 48271 + cell * 69621 + 11) % 2147483647) X, e0 _, e1 _, ⟨c, i + 1, 0, _, by omega, by omega, hc, rfl⟩, ?_⟩
        · simp [b_35, ixP0, ixP1, ixP2, ixP3, setP1, setP2, setP3, hl, hix, hk, hp, hg, hb0, hb1, hn0, h2, fin_memP, hm1, hm2, hm3]
    · refine ⟨(s * 48271 + 7) % 2147483647 * 16807 % 2147483629 % b, memP c i 0 ((s * 48271 + 7) % 2147483647) X, e0 _, e1 _, ⟨c, i, 0, _, by omega, by omega, hc, rfl⟩, ?_⟩
      · simp [b_35, ixP0, ixP1, ixP2, ixP3, setP1, setP2, setP3, hl, hk, hp, hb0, hb1, hn0, h2, fin_memP, hm1, hm2, hm3]
  · have hcp : 0 < bb := by omega
    refine ⟨bb % b, memP c i (bb / b) s X, e0 _, e1 _, ⟨c, i, bb / b, s, hi, Int.ediv_nonneg (by omega) (by omega), hc, rfl⟩, ?_⟩
    simp [b_35, ixP0, ixP1, ixP2, ixP3, setP1, setP2, setP3, hz, hcp, hb0, hb1, hn0, h2, fin_memP]
end K76

set_option maxHeartbeats 1000000
namespace K76
open PySem RI HT
open L2 hiding St
theorem add_str (a b : List Nat) (M : Mem) (h : a.length + b.length ≤ LIM) : addD (.str a) (.str b) M = .ok (.str (a ++ b)) M := by
  show (if a.length + b.length ≤ LIM then _ else _) = _
  rw [if_pos h]
theorem str_ix (i : Nat) (h : i < 2) (M : Mem) : toStrD [dN i] M = .ok (.str [if decide (i = 1) = true then 49 else 48]) M := by
  match i, h with
  | 0, _ => rfl
  | 1, _ => rfl
theorem lnames_lc (F : FT) (H : Hs) (k : Kd) (hc : cnt H k ≤ 2) (a b c : Option D) (M : Mem) : lcG none lg_36_0 mYes le_36_0 F [a, b, some (eKd k), c, none] ((List.range (cnt H k)).map dN) M = .ok (((List.range (cnt H k)).map (nmI k)).map eNm) M := by
  rw [List.map_map]
  exact lc_all (gd := none) (g := lg_36_0) (me := le_36_0) (F := F) (r := [a, b, some (eKd k), c, none]) (enc := dN) (M := M) rfl (eNm ∘ nmI k) (List.range (cnt H k)) fun i hi => by
    have hi' : i < 2 := by have := List.mem_range.mp hi; omega
    refine ⟨[a, b, some (eKd k), c, some (dN i)], by simp [lg_36_0], ?_⟩
    have hf := fun M => str_ix i hi' M
    have ha := fun M => add_str [k.ch] [if decide (i = 1) = true then 49 else 48] M (by simp)
    simp only [decide_eq_true_eq] at hf ha
    simp [le_36_0, eKd, hf, ha, eNm, Nm.txt, nmI]
theorem lnames_loop (F : FT) (H : Hs) (hc : ∀ k, cnt H k ≤ 2) (A : Option D) (M : Mem) : ∀ (l : List Kd) (acc : List Nm) (b c d : Option D), acc.length + 2 * l.length ≤ 100 →
    ∃ b' c' d', forG none fg_36_1 fb_36_1 F (l.map fun k => .tup [eKd k, dN (cnt H k)]) [A, some (.lst (acc.map eNm)), b, c, d] M = .ok (.next [A, some (.lst ((acc ++ l.flatMap fun k => (List.range (cnt H k)).map (nmI k)).map eNm)), b', c', d']) M
  | [], acc, b, c, d, _ => ⟨b, c, d, by simp [forG]⟩
  | k :: l, acc, b, c, d, hz => by
    have hk := hc k
    simp only [List.length_cons] at hz
    obtain ⟨b', c', d', ih⟩ := lnames_loop F H hc A M l (acc ++ (List.range (cnt H k)).map (nmI k)) (some (eKd k)) (some (dN (cnt H k))) d (by simp; omega)
    refine ⟨b', c', d', ?_⟩
    have h1 := fun a b c => lnames_lc F H k hk a b c M
    have h2 := fun M => add_lst (a := acc.map eNm) (b := ((List.range (cnt H k)).map (nmI k)).map eNm) (by simp; show _ ≤ 16777216; omega) M
    have hr : cnt H k ≤ 1000 := by omega
    have hr2 : cnt H k ≤ 16777216 := by omega
    simp only [List.map_cons, forG, gd_none, if_true]
    rw [← RI.bind_assoc]
    have e : (fg_36_1 F (.tup [eKd k, dN (cnt H k)]) [A, some (.lst (acc.map eNm)), b, c, d] M).bind (fun r1 M1 => fb_36_1 F r1 M1) = .ok (.next [A, some (.lst ((acc ++ (List.range (cnt H k)).map (nmI k)).map eNm)), some (eKd k), some (dN (cnt H k)), d]) M := by
      rw [List.map_append]
      simp only [fg_36_1, fb_36_1, ap_gTp, seqD_tup, List.length_cons, List.length_nil, if_true, ap_gsCons, ap_gN, ap_gsNil, Res.bind_ok, List.set_cons_succ, List.set_cons_zero, ap_asg, ap_B, ap_var, List.getElem?_cons_zero, List.getElem?_cons_succ, ap_lc, ap_rng1, ap_cons, ap_nil, rngOk_nat hr, Int.toNat_natCast, rng0, List.length_map, List.length_range, hr2, wipeE, lt_36_0, h1, Res.noX, h2, Res.toS]
    rw [e, Res.bind_ok]
    simp only [List.flatMap_cons]
    rw [← List.append_assoc]
    exact ih
theorem law_names (n : Nat) (H : Hs) (hc : ∀ k, cnt H k ≤ 2) (M : Mem) : callF tb (n + 1) 36 [eKinds H] M = .ok (.lst ((namesL H).map eNm)) M := by
  rw [u_36]
  obtain ⟨b, c, d, h⟩ := lnames_loop (callF tb n) H hc (some (eKinds H)) M allKd [] none none none (by decide)
  have e : allKd.map (fun k => D.tup [eKd k, dN (cnt H k)]) = [.tup [.str [99], dN H.kc], .tup [.str [102], dN H.kf], .tup [.str [107], dN H.kl], .tup [.str [112], dN H.kp.length], .tup [.str [115], dN H.ks]] := rfl
  rw [e, List.nil_append, List.map_nil] at h
  have e2 : (allKd.flatMap fun k => (List.range (cnt H k)).map (nmI k)) = namesL H := rfl
  rw [e2] at h
  have hno : D.noObj (.lst ((namesL H).map eNm)) = true := noOs_nm _
  simp [b_36, h]
def kindTxt (w : List Nat) : List Nat := ((kd_KINDS.lookup w).map fun d => match d with | .str s => s | _ => []).getD []
end K76

set_option maxHeartbeats 1000000
namespace K76
open PySem RI HT
open L2 hiding St
theorem dkget_tx (w : List Nat) (k : L2.Key) (hk : D.key1 (.str w) = some k) : ∀ l : List (List Nat × D), dkget k (l.map txD) = l.lookup w
  | [] => rfl
  | (q1, q2) :: l => by
    have ih := dkget_tx w k hk l
    unfold dkget at ih ⊢
    simp only [List.map_cons, List.find?_cons, List.lookup_cons, txD]
    rw [← hk]
    by_cases e : q1 = w
    · subst e
      simp
    · have e1 : ¬ D.key1 (.str q1) = D.key1 (.str w) := fun h => e ((key1_inj _ _).mp h)
      have e2 : (w == q1) = false := by simpa using fun h => e h.symm
      simp only [e1, decide_false, e2]
      rw [hk]
      exact ih
theorem kind_dks (F : FT) (r : EV) (M : Mem) : mDks [([103, 101, 116], (mC (.str [99]))), ([112, 117, 116], (mC (.str [99]))), ([116, 97, 107, 101], (mC (.str [107]))), ([102, 114, 101, 101], (mC (.str [107]))), ([115, 101, 110, 100], (mC (.str [112]))), ([104, 101, 97, 114], (mC (.str [112]))), ([119, 97, 107, 101], (mC (.str [115]))), ([119, 97, 105, 116], (mC (.str [115]))), ([114, 101, 97, 100], (mC (.str [102]))), ([110, 111, 116, 101], (mC (.str [102])))] F r M = .ok (.obj M.length) (M ++ [.dks false (kd_KINDS.map txD)]) := by
  simp only [ap_dks, ap_evP0, ap_evP1, ap_c, Res.bind_ok, Res.noX]
  rw [if_pos]
  · rfl
  · exact ⟨by decide, bels_pure _ _ rfl⟩
theorem law_kind (n : Nat) (l : Ln) (M : Mem) : callF tb (n + 1) 37 [.str l.word] M = .ok (.str (match kdOf l with | some c => [c] | none => [])) M := by
  rw [u_37]
  have hg : getD2 (.obj M.length) (.str l.word) (.str []) (M ++ [.dks false (kd_KINDS.map txD)]) = .ok (.str (match kdOf l with | some c => [c] | none => [])) (M ++ [.dks false (kd_KINDS.map txD)]) := by
    have h1 := dkget_tx l.word _ rfl kd_KINDS
    rw [kd_at l] at h1
    simp only [getD2, dctD, dksD, get_end]
    show (match D.key1 (.str l.word) with | some k => .ok ((dkget k (kd_KINDS.map txD)).getD (.str [])) _ | none => .bad : Res D) = _
    rw [show D.key1 (.str l.word) = some (.inr ⟨l.word.toArray⟩) from rfl]
    simp only
    rw [h1]
    cases kdOf l <;> rfl
  have hd : isDctD (M ++ [.dks false (kd_KINDS.map txD)]) (.obj M.length) = true := by simp [isDctD, dctD, dksD]
  simp only [b_37, ap_ret, ap_get2, kind_dks, Res.bind_ok, hd, if_true, ap_var, List.getElem?_cons_zero, ap_c, hg, Res.noX, Res.toS, retOf_ret]
  exact fin_more rfl
/-- words that a house lets draw -/
def wordOk (K : Hs) (l : Ln) : Prop := match l with
  | .hand _ _ => False
  | l => match l.thing with
    | some m => 0 < cnt K m.kd
    | none => True
def lnK (K : Hs) (lines : Nat) (l : Ln) : Prop := match l with
  | .set v => v < 4
  | .add v => v < 4
  | .zero j => j ≤ lines
  | .go j => j ≤ lines
  | .hand _ _ => False
  | l => match l.thing with
    | some m => hasK K m = true
    | none => True
def wsOk (K : Hs) (ws : List (List Nat)) : Prop := ws ≠ [] ∧ ∀ w ∈ ws, ∃ l : Ln, l.word = w ∧ wordOk K l
theorem wsOk.app {K : Hs} {a b : List (List Nat)} (h : wsOk K a) (hb : ∀ w ∈ b, ∃ l : Ln, l.word = w ∧ wordOk K l) : wsOk K (a ++ b) :=
  ⟨by simp [h.1], fun w hw => by
    rcases List.mem_append.mp hw with hw | hw
    · exact h.2 w hw
    · exact hb w hw⟩
theorem line_turn (n : Nat) (K : Hs) (hc : ∀ k, cnt K k ≤ 2) (ws : List (List Nat)) (hz : ws.length ≤ 90) (k : Kd) (l1 l2 : Ln) (a c d e g h i x9 x10 x11 x12 x13 : Option D) (M : Mem) :
    (fg_38_0 (callF tb (n + 1)) (.tup [eKd k, .str l1.word, .str l2.word]) [a, some (eKinds K), c, d, e, some (.lst (ws.map .str)), g, h, i, x9, x10, x11, x12, x13] M).bind (fun r1 M1 => fb_38_0 (callF tb (n + 1)) r1 M1)
      = .ok (.next [a, some (eKinds K), c, d, e, some (.lst ((ws ++ if 0 < cnt K k then [l1.word, l2.word, l1.word, l2.word, l1.word, l2.word] else []).map .str)), g, h, i, some (eKd k), some (.str l1.word), some (.str l2.word), x12, x13]) M := by
  have h1 := fun M => law_names n K hc M
  have h2 := fun M => in_names K hc ⟨k, false⟩ false M
  have h3 : hasK K ⟨k, false⟩ = decide (0 < cnt K k) := hasK_cnt K _
  have h4 : ∀ M, addD (.str [k.ch]) (.str [48]) M = .ok (.str [k.ch, 48]) M := fun M => add_str [k.ch] [48] M (by simp)
  have e : eNm ⟨k, false⟩ = .str [k.ch, 48] := rfl
  rw [e, h3] at h2
  have h5 := fun M => add_lst (a := ws.map D.str) (b := [.str l1.word, .str l2.word, .str l1.word, .str l2.word, .str l1.word, .str l2.word]) (by simp; show _ ≤ 16777216; omega) M
  have hr : repD [D.str l1.word, D.str l2.word] 3 = [.str l1.word, .str l2.word, .str l1.word, .str l2.word, .str l1.word, .str l2.word] := rfl
  have ho : repOk 2 3 = true := by decide
  by_cases hk : 0 < cnt K k
  · simp only [hk, decide_true, Bool.false_eq_true, if_false] at h2
    simp [fg_38_0, fb_38_0, eKd, h4, h1, h2, hk, mLMul, hr, ho, h5]
  · simp only [hk, decide_false, Bool.false_eq_true, if_false] at h2
    simp [fg_38_0, fb_38_0, eKd, h4, h1, h2, hk]
end K76

set_option maxHeartbeats 1000000
namespace K76
open PySem RI HT
open L2 hiding St
abbrev Trip := Kd × Ln × Ln
theorem line_loop (n : Nat) (K : Hs) (hc : ∀ k, cnt K k ≤ 2) (a c d e g h i x12 x13 : Option D) (M : Mem) : ∀ (l : List Trip) (ws : List (List Nat)) (x9 x10 x11 : Option D), wsOk K ws → ws.length + 6 * l.length ≤ 90 → (∀ t ∈ l, 0 < cnt K t.1 → wordOk K t.2.1 ∧ wordOk K t.2.2) →
    ∃ ws' y9 y10 y11, wsOk K ws' ∧ ws'.length ≤ 90 ∧ forG none fg_38_0 fb_38_0 (callF tb (n + 1)) (l.map fun t => .tup [eKd t.1, .str t.2.1.word, .str t.2.2.word]) [a, some (eKinds K), c, d, e, some (.lst (ws.map .str)), g, h, i, x9, x10, x11, x12, x13] M = .ok (.next [a, some (eKinds K), c, d, e, some (.lst (ws'.map .str)), g, h, i, y9, y10, y11, x12, x13]) M
  | [], ws, x9, x10, x11, hw, hz, _ => ⟨ws, x9, x10, x11, hw, by simpa using hz, rfl⟩
  | (k, l1, l2) :: l, ws, x9, x10, x11, hw, hz, ht => by
    simp only [List.length_cons] at hz
    have e1 := line_turn n K hc ws (by omega) k l1 l2 a c d e g h i x9 x10 x11 x12 x13 M
    have hok := ht (k, l1, l2) List.mem_cons_self
    have hw2 : wsOk K (ws ++ if 0 < cnt K k then [l1.word, l2.word, l1.word, l2.word, l1.word, l2.word] else []) := hw.app (by
      intro w hm
      by_cases hk : 0 < cnt K k
      · obtain ⟨o1, o2⟩ := hok hk
        rw [if_pos hk] at hm
        simp only [List.mem_cons, List.not_mem_nil, or_false] at hm
        rcases hm with rfl | rfl | rfl | rfl | rfl | rfl
        · exact ⟨l1, rfl, o1⟩
        · exact ⟨l2, rfl, o2⟩
        · exact ⟨l1, rfl, o1⟩
        · exact ⟨l2, rfl, o2⟩
        · exact ⟨l1, rfl, o1⟩
        · exact ⟨l2, rfl, o2⟩
      · rw [if_neg hk] at hm; cases hm)
    obtain ⟨ws', y9, y10, y11, q1, q2, q3⟩ := line_loop n K hc a c d e g h i x12 x13 M l _ (some (eKd k)) (some (.str l1.word)) (some (.str l2.word)) hw2 (by split <;> simp <;> omega) (fun t ht' => ht t (List.mem_cons_of_mem _ ht'))
    refine ⟨ws', y9, y10, y11, q1, q2, ?_⟩
    simp only [List.map_cons, forG, gd_none, if_true]
    rw [← RI.bind_assoc, e1, Res.bind_ok]
    exact q3
theorem hp_len {M X : Mem} (h : HP M X) : M.length = X.length + 1 := by
  obtain ⟨c, i, b, s, _, _, _, rfl⟩ := h
  rfl
theorem fin_HP {M M' X : Mem} {d : D} (h : HP M X) (h' : HP M' X) (hd : D.noObj d = true) : fin false M.length d M' = .ok d M' :=
  by
    rw [hp_len h, ← hp_len h']
    exact fin_same hd
theorem in_wordsL (ws : List (List Nat)) (t : List Nat) (ht : okW t = true) (hw : ws.all okW = true) (M : Mem) : inD false (.str t) (.lst (ws.map .str)) M = .ok (.bl (decide (t ∈ ws))) M := by
  have := in_words ws t ht hw false M
  rw [inD_S rfl rfl] at this ⊢
  exact this
theorem in_sa (t : List Nat) (ht : okW t = true) (M : Mem) : inD false (.str t) (.lst [(.str [115, 101, 116]), (.str [97, 100, 100])]) M = .ok (.bl (decide (t ∈ [[115, 101, 116], [97, 100, 100]]))) M := in_wordsL [[115, 101, 116], [97, 100, 100]] t ht (by decide) M
theorem in_gz (t : List Nat) (ht : okW t = true) (M : Mem) : inD false (.str t) (.lst [(.str [103, 111]), (.str [122, 101, 114, 111])]) M = .ok (.bl (decide (t ∈ [[103, 111], [122, 101, 114, 111]]))) M := in_wordsL [[103, 111], [122, 101, 114, 111]] t ht (by decide) M
theorem nm_head (m : Nm) (M : Mem) : ixD (eNm m) (.int 0) M = .ok (.str [m.kd.ch]) M := by
  obtain ⟨k, b⟩ := m
  cases k <;> cases b <;> rfl
theorem ch_inj (a b : Kd) : ([a.ch] = [b.ch]) ↔ a = b := by cases a <;> cases b <;> simp [Kd.ch]
theorem filt_len (K : Hs) (k : Kd) : ((namesL K).filter fun m => decide (m.kd = k)).length = cnt K k := by
  have h1 : ∀ k', ((List.range (cnt K k')).map (nmI k')).filter (fun m => decide (m.kd = k)) = if k' = k then (List.range (cnt K k')).map (nmI k') else [] := by
    intro k'
    by_cases e : k' = k
    · rw [if_pos e, List.filter_eq_self]
      intro m hm
      obtain ⟨i, _, rfl⟩ := List.mem_map.mp hm
      simp [nmI, e]
    · rw [if_neg e, List.filter_eq_nil_iff]
      intro m hm
      obtain ⟨i, _, rfl⟩ := List.mem_map.mp hm
      simp [nmI, e]
  unfold namesL
  rw [List.filter_flatMap]
  simp only [h1, allKd]
  cases k <;> simp
theorem names_lc2 (n : Nat) (K : Hs) (l : Ln) (k : Kd) (hk : kdOf l = some k.ch) (a b c d e f g h x8 x9 x10 x11 x12 : Option D) (M : Mem) :
    lcG none lg_38_1 lt_38_1 le_38_1 (callF tb (n + 1)) [a, b, c, d, e, f, g, some (.str l.word), x8, x9, x10, x11, x12, h] ((namesL K).map eNm) M = .ok (((namesL K).filter fun m => decide (m.kd = k)).map eNm) M :=
  lc_ok (gd := none) (g := lg_38_1) (mt := lt_38_1) (me := le_38_1) (F := callF tb (n + 1)) (r := [a, b, c, d, e, f, g, some (.str l.word), x8, x9, x10, x11, x12, h]) (enc := eNm) (M := M) rfl (fun m => decide (m.kd = k)) eNm (namesL K) fun m _ => by
    have h1 := fun M => law_kind n l M
    rw [hk] at h1
    refine ⟨[a, b, c, d, e, f, g, some (.str l.word), x8, x9, x10, x11, x12, some (eNm m)], by simp [lg_38_1], ?_, fun _ => by simp [le_38_1]⟩
    have h2 : okW [m.kd.ch] = true := by cases m.kd <;> decide
    have h3 : okW [k.ch] = true := by cases k <;> decide
    have h4 := fun M => eq_words [m.kd.ch] [k.ch] h2 h3 false M
    simp only [ch_inj] at h4
    simp [lt_38_1, nm_head, h1, h4]
end K76

set_option maxHeartbeats 2000000
namespace K76
open PySem RI HT
open L2 hiding St
def trips : List Trip := [(.c, .get false, .put false), (.k, .take false, .free false), (.p, .send false, .hear false), (.s, .wake false, .wait false)]
def baseW : List (List Nat) := [[115, 101, 116], [97, 100, 100], [115, 97, 121], [122, 101, 114, 111], [115, 116, 111, 112]]
def fileW : List (List Nat) := [[110, 111, 116, 101], [114, 101, 97, 100], [110, 111, 116, 101], [109, 97, 114, 107], [107, 101, 101, 112], [109, 97, 114, 107]]
theorem base_ok (K : Hs) (b : Bool) : wsOk K (baseW ++ if b = true then [[103, 111]] else []) := by
  refine wsOk.app ⟨by decide, ?_⟩ ?_
  · intro w hw
    simp only [baseW, List.mem_cons, List.not_mem_nil, or_false] at hw
    rcases hw with rfl | rfl | rfl | rfl | rfl
    · exact ⟨.set 0, rfl, trivial⟩
    · exact ⟨.add 0, rfl, trivial⟩
    · exact ⟨.say, rfl, trivial⟩
    · exact ⟨.zero 0, rfl, trivial⟩
    · exact ⟨.stop, rfl, trivial⟩
  · intro w hw
    cases b
    · cases hw
    · simp only [if_true, List.mem_cons, List.not_mem_nil, or_false] at hw
      exact ⟨.go 0, hw.symm, trivial⟩
theorem file_ok (K : Hs) (h : 0 < K.kf) : ∀ w ∈ fileW, ∃ l : Ln, l.word = w ∧ wordOk K l := by
  intro w hw
  simp only [fileW, List.mem_cons, List.not_mem_nil, or_false] at hw
  rcases hw with rfl | rfl | rfl | rfl | rfl | rfl
  · exact ⟨.note false, rfl, h⟩
  · exact ⟨.read false, rfl, h⟩
  · exact ⟨.note false, rfl, h⟩
  · exact ⟨.mark, rfl, trivial⟩
  · exact ⟨.keep, rfl, trivial⟩
  · exact ⟨.mark, rfl, trivial⟩
theorem ix_words (ws : List (List Nat)) (r : Nat) (M : Mem) : ixD (.lst (ws.map .str)) (.int (r : Int)) M = okO M D.str ws[r]? := ixL D.str ws r M
theorem dB_dec {r : Nat} (h : r < 2) : dB (decide (r = 1)) = r := by
  match r, h with
  | 0, _ => rfl
  | 1, _ => rfl
theorem names_len {K : Hs} (hc : ∀ k, cnt K k ≤ 2) : (namesL K).length ≤ 16777216 := by
  have h1 := hc .c
  have h2 := hc .f
  have h3 := hc .k
  have h4 := hc .p
  have h5 := hc .s
  simp [namesL, allKd]
  omega
theorem law_line (n : Nat) (K : Hs) (hc : ∀ k, cnt K k ≤ 2) (many spot lines : Nat) (hs : spot < lines) (hl : lines ≤ 100) (M X : Mem) (h : HP M X) : ∃ (l : Ln) (M' : Mem), lnK K lines l ∧ HP M' X ∧ callF tb (n + 2) 38 [.obj 0, eKinds K, dN many, dN spot, dN lines] M = .ok (eLn l) M' := by
  rw [u_38]
  obtain ⟨ws, y9, y10, y11, hw, hwl, hloop⟩ := line_loop n K hc (some (.obj 0)) (some (dN many)) (some (dN spot)) (some (dN lines)) (some (.lst (trips.map fun t => .tup [eKd t.1, .str t.2.1.word, .str t.2.2.word]))) none none none none M trips (baseW ++ if decide (K.kf = 0) = true then [[103, 111]] else []) none none none (base_ok K _) (by split <;> simp [baseW, trips]) (by
    intro t ht hk
    simp only [trips, List.mem_cons, List.not_mem_nil, or_false] at ht
    rcases ht with rfl | rfl | rfl | rfl <;> exact ⟨hk, hk⟩)
  have hw2 : wsOk K (ws ++ if 0 < K.kf then fileW else []) := hw.app (by
    intro w hm
    split at hm
    · rename_i h0; exact file_ok K h0 w hm
    · cases hm)
  generalize hws2 : (ws ++ if 0 < K.kf then fileW else []) = ws2 at hw2
  have hl2 : 1 ≤ ws2.length ∧ ws2.length ≤ 96 := by
    constructor
    · exact List.length_pos_iff.mpr hw2.1
    · rw [← hws2, List.length_append]
      split <;> simp [fileW] <;> omega
  obtain ⟨r, M1, hr, hM1, hp⟩ := pick_ok n ws2.length hl2.1 (by omega) M X h
  obtain ⟨l, hlw, hlo⟩ := hw2.2 ws2[r] (List.getElem_mem hr)
  have hix : ws2[r]? = some l.word := by rw [List.getElem?_eq_getElem hr, hlw]
  have hix2 := fun M => ix_words ws2 r M
  simp only [hix, okO_some] at hix2
  have hlen : ∀ M, lenX [.lst (ws2.map D.str)] M = .ok (dN ws2.length) M := fun M => by rw [len_of (l := ws2.map .str) rfl, List.length_map]
  have hfin : ∀ (l' : Ln) (M' : Mem), HP M' X → fin false M.length (eLn l') M' = .ok (eLn l') M' := fun l' M' h' => fin_HP h h' (noO_ln l')
  have hA : (mAsg (mB addD (mLst (mCons (mC (.str [115, 101, 116])) (mCons (mC (.str [97, 100, 100])) (mCons (mC (.str [115, 97, 121])) (mCons (mC (.str [122, 101, 114, 111])) (mCons (mC (.str [115, 116, 111, 112])) mNil)))))) (mLMul (mCons (mC (.str [103, 111])) mNil) (mBl toIntD (mCons (mB (eqD false) (mB ixD (mVar 1) (mC (.int 4))) (mC (.int 0))) mNil)))) (gN 5)) (callF tb (n + 1)) [some (.obj 0), some (eKinds K), some (dN many), some (dN spot), some (dN lines), none, none, none, none, none, none, none, none, none] M = .ok (.next [some (.obj 0), some (eKinds K), some (dN many), some (dN spot), some (dN lines), some (.lst ((baseW ++ if decide (K.kf = 0) = true then [[103, 111]] else []).map .str)), none, none, none, none, none, none, none, none]) M := by
    have ha : ∀ M, addD (.lst (baseW.map .str)) (.lst [.str [103, 111]]) M = .ok (.lst ((baseW ++ [[103, 111]]).map .str)) M := fun M => add_lst (by decide) M
    have hb : ∀ M, addD (.lst (baseW.map .str)) (.lst []) M = .ok (.lst (baseW.map .str)) M := fun M => add_lst (by decide) M
    have hr1 : repD [D.str [103, 111]] 1 = [.str [103, 111]] := rfl
    have hr0 : repD [D.str [103, 111]] 0 = [] := rfl
    have ho1 : repOk 1 1 = true := by decide
    have ho0 : repOk 1 0 = true := by decide
    have ti : ∀ b M, toIntD [.bl b] M = .ok (.int (if b then 1 else 0)) M := fun _ _ => rfl
    by_cases h0 : K.kf = 0
    · simp only [baseW, List.map_cons, List.map_nil, List.cons_append, List.nil_append] at ha
      simp [h0, mLMul, hr1, ho1, ha, ti, baseW]
    · simp only [baseW, List.map_cons, List.map_nil] at hb
      simp [h0, mLMul, hr0, ho0, hb, ti, baseW]
  have hC : (mIfS (mTB (mB gtD (mB ixD (mVar 1) (mC (.int 4))) (mC (.int 0))))
 (mAsg (mB addD (mVar 5) (mLst (mCons (mC (.str [110, 111, 116, 101])) (mCons (mC (.str [114, 101, 97, 100])) (mCons (mC (.str [110, 111, 116, 101])) (mCons (mC (.str [109, 97, 114, 107])) (mCons (mC (.str [107, 101, 101, 112])) (mCons (mC (.str [109, 97, 114, 107])) mNil)))))))) (gN 5))
 mSkip) (callF tb (n + 1)) [some (.obj 0), some (eKinds K), some (dN many), some (dN spot), some (dN lines), some (.lst (ws.map .str)), some (.lst (trips.map fun t => .tup [eKd t.1, .str t.2.1.word, .str t.2.2.word])), none, none, y9, y10, y11, none, none] M = .ok (.next [some (.obj 0), some (eKinds K), some (dN many), some (dN spot), some (dN lines), some (.lst (ws2.map .str)), some (.lst (trips.map fun t => .tup [eKd t.1, .str t.2.1.word, .str t.2.2.word])), none, none, y9, y10, y11, none, none]) M := by
    rw [← hws2]
    by_cases h0 : 0 < K.kf
    · have hd : ∀ M, addD (.lst (ws.map .str)) (.lst (fileW.map .str)) M = .ok (.lst (ws.map .str ++ fileW.map .str)) M := fun M => add_lst (by simp [fileW]; show _ ≤ 16777216; omega) M
      simp only [fileW, List.map_cons, List.map_nil] at hd
      simp [h0, hd, fileW]
    · simp [h0]
  have hA2 : (mAsg (mLst (mCons (mTup (mCons (mC (.str [99])) (mCons (mC (.str [103, 101, 116])) (mCons (mC (.str [112, 117, 116])) mNil)))) (mCons (mTup (mCons (mC (.str [107])) (mCons (mC (.str [116, 97, 107, 101])) (mCons (mC (.str [102, 114, 101, 101])) mNil)))) (mCons (mTup (mCons (mC (.str [112])) (mCons (mC (.str [115, 101, 110, 100])) (mCons (mC (.str [104, 101, 97, 114])) mNil)))) (mCons (mTup (mCons (mC (.str [115])) (mCons (mC (.str [119, 97, 107, 101])) (mCons (mC (.str [119, 97, 105, 116])) mNil)))) mNil))))) (gN 6)) (callF tb (n + 1)) [some (.obj 0), some (eKinds K), some (dN many), some (dN spot), some (dN lines), some (.lst ((baseW ++ if decide (K.kf = 0) = true then [[103, 111]] else []).map .str)), none, none, none, none, none, none, none, none] M = .ok (.next [some (.obj 0), some (eKinds K), some (dN many), some (dN spot), some (dN lines), some (.lst ((baseW ++ if decide (K.kf = 0) = true then [[103, 111]] else []).map .str)), some (.lst (trips.map fun t => .tup [eKd t.1, .str t.2.1.word, .str t.2.2.word])), none, none, none, none, none, none, none]) M := by
    simp [trips, eKd, Kd.ch, Ln.word]
  have hF : (mFor (mSeqI (mVar 6)) fg_38_0 fb_38_0) (callF tb (n + 1)) [some (.obj 0), some (eKinds K), some (dN many), some (dN spot), some (dN lines), some (.lst ((baseW ++ if decide (K.kf = 0) = true then [[103, 111]] else []).map .str)), some (.lst (trips.map fun t => .tup [eKd t.1, .str t.2.1.word, .str t.2.2.word])), none, none, none, none, none, none, none] M = .ok (.next [some (.obj 0), some (eKinds K), some (dN many), some (dN spot), some (dN lines), some (.lst (ws.map .str)), some (.lst (trips.map fun t => .tup [eKd t.1, .str t.2.1.word, .str t.2.2.word])), none, none, y9, y10, y11, none, none]) M := by
    simp only [ap_for, ap_seqI, ap_var, List.getElem?_cons_zero, List.getElem?_cons_succ, Res.bind_ok, itD_lst, Res.toS]
    exact hloop
  have hP : (mAsg (mB ixD (mVar 5) (mCall 35 (mCons (mVar 0) (mCons (mBl lenX (mCons (mVar 5) mNil)) mNil)))) (gN 7)) (callF tb (n + 1)) [some (.obj 0), some (eKinds K), some (dN many), some (dN spot), some (dN lines), some (.lst (ws2.map .str)), some (.lst (trips.map fun t => .tup [eKd t.1, .str t.2.1.word, .str t.2.2.word])), none, none, y9, y10, y11, none, none] M = .ok (.next [some (.obj 0), some (eKinds K), some (dN many), some (dN spot), some (dN lines), some (.lst (ws2.map .str)), some (.lst (trips.map fun t => .tup [eKd t.1, .str t.2.1.word, .str t.2.2.word])), some (.str l.word), none, y9, y10, y11, none, none]) M1 := by
    simp [hlen, hp, hix2]
  have hkind := fun M => law_kind n l M
  simp only [b_38, ap_seq, hA, hA2, hF, hC, hP, Res.bind_ok]
  generalize (some (D.lst (trips.map fun t => .tup [eKd t.1, .str t.2.1.word, .str t.2.2.word])) : Option D) = T6
  generalize (some (D.lst (ws2.map D.str)) : Option D) = W6
  have hnames := fun M => law_names n K hc M
  clear hA hC hA2 hF hloop hP
  have eq_e0 : ∀ M, eqD false (.str []) (.str []) M = .ok (.bl true) M := fun M => eq_words [] [] rfl rfl false M
  have eq_e1 : ∀ (c : Nat) (h : c < 1114112) M, eqD false (.str [c]) (.str []) M = .ok (.bl false) M := fun c h M => eq_words [c] [] (by simp [okW, h]) rfl false M
  cases l with
  | set v =>
    obtain ⟨r2, M2, hr2, hM2, hp2⟩ := pick_ok n 4 (by decide) (by decide) M1 X hM1
    have hp3 : callF tb (n + 1) 35 [.obj 0, .int 4] M1 = .ok (dN r2) M2 := hp2
    refine ⟨.set r2, M2, hr2, hM2, ?_⟩
    rw [← hfin (.set r2) M2 hM2]
    simp [in_sa, in_gz, Ln.word, Ln.rest, eq_words, okW, hfin, hp3]
    rfl
  | add v =>
    obtain ⟨r2, M2, hr2, hM2, hp2⟩ := pick_ok n 4 (by decide) (by decide) M1 X hM1
    have hp3 : callF tb (n + 1) 35 [.obj 0, .int 4] M1 = .ok (dN r2) M2 := hp2
    refine ⟨.add r2, M2, hr2, hM2, ?_⟩
    rw [← hfin (.add r2) M2 hM2]
    simp [in_sa, in_gz, Ln.word, Ln.rest, eq_words, okW, hfin, hp3]
    rfl
  | say =>
    refine ⟨.say, M1, trivial, hM1, ?_⟩
    rw [← hfin .say M1 hM1]
    simp only [Ln.word, kdOf] at hkind
    simp [in_sa, in_gz, Ln.word, Ln.rest, eq_words, okW, hfin, hkind, eq_e0]
    rfl
  | stop =>
    refine ⟨.stop, M1, trivial, hM1, ?_⟩
    rw [← hfin .stop M1 hM1]
    simp only [Ln.word, kdOf] at hkind
    simp [in_sa, in_gz, Ln.word, Ln.rest, eq_words, okW, hfin, hkind, eq_e0]
    rfl
  | mark =>
    refine ⟨.mark, M1, trivial, hM1, ?_⟩
    rw [← hfin .mark M1 hM1]
    simp only [Ln.word, kdOf] at hkind
    simp [in_sa, in_gz, Ln.word, Ln.rest, eq_words, okW, hfin, hkind, eq_e0]
    rfl
  | keep =>
    refine ⟨.keep, M1, trivial, hM1, ?_⟩
    rw [← hfin .keep M1 hM1]
    simp only [Ln.word, kdOf] at hkind
    simp [in_sa, in_gz, Ln.word, Ln.rest, eq_words, okW, hfin, hkind, eq_e0]
    rfl
  | zero j =>
    by_cases h0 : 0 < K.kf
    · obtain ⟨r2, M2, hr2, hM2, hp2⟩ := pick_ok n (lines - spot) (by omega) (by omega) M1 X hM1
      have hp3 : callF tb (n + 1) 35 [.obj 0, .int ((lines : Int) + 1 - ((spot : Int) + 1))] M1 = .ok (dN r2) M2 := by
        rw [← hp2]
        have : (lines : Int) + 1 - ((spot : Int) + 1) = ((lines - spot : Nat) : Int) := by omega
        rw [this]
      refine ⟨.zero (spot + 1 + r2), M2, (by show _ ≤ _; omega), hM2, ?_⟩
      rw [← hfin (.zero (spot + 1 + r2)) M2 hM2]
      simp [in_sa, in_gz, Ln.word, Ln.rest, eq_words, okW, hfin, h0, hp3, -Int.add_sub_add_right]
      rfl
    · obtain ⟨r2, M2, hr2, hM2, hp2⟩ := pick_ok n (lines + 1) (by omega) (by omega) M1 X hM1
      have hp3 : callF tb (n + 1) 35 [.obj 0, .int ((lines : Int) + 1)] M1 = .ok (dN r2) M2 := hp2
      refine ⟨.zero r2, M2, (by show _ ≤ _; omega), hM2, ?_⟩
      rw [← hfin (.zero r2) M2 hM2]
      simp [in_sa, in_gz, Ln.word, Ln.rest, eq_words, okW, hfin, h0, hp3]
      rfl
  | go j =>
    by_cases h0 : 0 < K.kf
    · obtain ⟨r2, M2, hr2, hM2, hp2⟩ := pick_ok n (lines - spot) (by omega) (by omega) M1 X hM1
      have hp3 : callF tb (n + 1) 35 [.obj 0, .int ((lines : Int) + 1 - ((spot : Int) + 1))] M1 = .ok (dN r2) M2 := by
        rw [← hp2]
        have : (lines : Int) + 1 - ((spot : Int) + 1) = ((lines - spot : Nat) : Int) := by omega
        rw [this]
      refine ⟨.go (spot + 1 + r2), M2, (by show _ ≤ _; omega), hM2, ?_⟩
      rw [← hfin (.go (spot + 1 + r2)) M2 hM2]
      simp [in_sa, in_gz, Ln.word, Ln.rest, eq_words, okW, hfin, h0, hp3, -Int.add_sub_add_right]
      rfl
    · obtain ⟨r2, M2, hr2, hM2, hp2⟩ := pick_ok n (lines + 1) (by omega) (by omega) M1 X hM1
      have hp3 : callF tb (n + 1) 35 [.obj 0, .int ((lines : Int) + 1)] M1 = .ok (dN r2) M2 := hp2
      refine ⟨.go r2, M2, (by show _ ≤ _; omega), hM2, ?_⟩
      rw [← hfin (.go r2) M2 hM2]
      simp [in_sa, in_gz, Ln.word, Ln.rest, eq_words, okW, hfin, h0, hp3]
      rfl
  | get bb =>
    have hk0 : 0 < cnt K .c := hlo
    have hk2 := hc .c
    obtain ⟨r2, M2, hr2, hM2, hp2⟩ := pick_ok n (cnt K .c) hk0 (by omega) M1 X hM1
    have hlc := fun a b c d e f g h x8 x9 x10 x11 x12 M => names_lc2 n K (.get bb) .c rfl a b c d e f g h x8 x9 x10 x11 x12 M
    have hll : ∀ M, lenX [.lst (((namesL K).filter fun m => decide (m.kd = .c)).map eNm)] M = .ok (dN (cnt K .c)) M := fun M => by rw [len_of (l := ((namesL K).filter fun m => decide (m.kd = .c)).map eNm) rfl, List.length_map, filt_len]
    have hnl : (namesL K).length ≤ 16777216 := names_len hc
    have hb : dB (decide (r2 = 1)) = r2 := dB_dec (by omega)
    refine ⟨.get (decide (r2 = 1)), M2, (by show hasK K _ = true; rw [hasK_cnt, decide_eq_true_eq]; show dB (decide (r2 = 1)) < _; rw [hb]; exact hr2), hM2, ?_⟩
    rw [← hfin (.get (decide (r2 = 1))) M2 hM2]
    simp only [Ln.word, kdOf] at hkind hlc
    simp only [eLn, Ln.word, Ln.rest, hb]
    simp [in_sa, in_gz, eq_words, okW, hkind, hnames, hnl, wipeE, hlc, hll, hp2, eq_e1]
  | put bb =>
    have hk0 : 0 < cnt K .c := hlo
    have hk2 := hc .c
    obtain ⟨r2, M2, hr2, hM2, hp2⟩ := pick_ok n (cnt K .c) hk0 (by omega) M1 X hM1
    have hlc := fun a b c d e f g h x8 x9 x10 x11 x12 M => names_lc2 n K (.put bb) .c rfl a b c d e f g h x8 x9 x10 x11 x12 M
    have hll : ∀ M, lenX [.lst (((namesL K).filter fun m => decide (m.kd = .c)).map eNm)] M = .ok (dN (cnt K .c)) M := fun M => by rw [len_of (l := ((namesL K).filter fun m => decide (m.kd = .c)).map eNm) rfl, List.length_map, filt_len]
    have hnl : (namesL K).length ≤ 16777216 := names_len hc
    have hb : dB (decide (r2 = 1)) = r2 := dB_dec (by omega)
    refine ⟨.put (decide (r2 = 1)), M2, (by show hasK K _ = true; rw [hasK_cnt, decide_eq_true_eq]; show dB (decide (r2 = 1)) < _; rw [hb]; exact hr2), hM2, ?_⟩
    rw [← hfin (.put (decide (r2 = 1))) M2 hM2]
    simp only [Ln.word, kdOf] at hkind hlc
    simp only [eLn, Ln.word, Ln.rest, hb]
    simp [in_sa, in_gz, eq_words, okW, hkind, hnames, hnl, wipeE, hlc, hll, hp2, eq_e1]
  | take bb =>
    have hk0 : 0 < cnt K .k := hlo
    have hk2 := hc .k
    obtain ⟨r2, M2, hr2, hM2, hp2⟩ := pick_ok n (cnt K .k) hk0 (by omega) M1 X hM1
    have hlc := fun a b c d e f g h x8 x9 x10 x11 x12 M => names_lc2 n K (.take bb) .k rfl a b c d e f g h x8 x9 x10 x11 x12 M
    have hll : ∀ M, lenX [.lst (((namesL K).filter fun m => decide (m.kd = .k)).map eNm)] M = .ok (dN (cnt K .k)) M := fun M => by rw [len_of (l := ((namesL K).filter fun m => decide (m.kd = .k)).map eNm) rfl, List.length_map, filt_len]
    have hnl : (namesL K).length ≤ 16777216 := names_len hc
    have hb : dB (decide (r2 = 1)) = r2 := dB_dec (by omega)
    refine ⟨.take (decide (r2 = 1)), M2, (by show hasK K _ = true; rw [hasK_cnt, decide_eq_true_eq]; show dB (decide (r2 = 1)) < _; rw [hb]; exact hr2), hM2, ?_⟩
    rw [← hfin (.take (decide (r2 = 1))) M2 hM2]
    simp only [Ln.word, kdOf] at hkind hlc
    simp only [eLn, Ln.word, Ln.rest, hb]
    simp [in_sa, in_gz, eq_words, okW, hkind, hnames, hnl, wipeE, hlc, hll, hp2, eq_e1]
  | free bb =>
    have hk0 : 0 < cnt K .k := hlo
    have hk2 := hc .k
    obtain ⟨r2, M2, hr2, hM2, hp2⟩ := pick_ok n (cnt K .k) hk0 (by omega) M1 X hM1
    have hlc := fun a b c d e f g h x8 x9 x10 x11 x12 M => names_lc2 n K (.free bb) .k rfl a b c d e f g h x8 x9 x10 x11 x12 M
    have hll : ∀ M, lenX [.lst (((namesL K).filter fun m => decide (m.kd = .k)).map eNm)] M = .ok (dN (cnt K .k)) M := fun M => by rw [len_of (l := ((namesL K).filter fun m => decide (m.kd = .k)).map eNm) rfl, List.length_map, filt_len]
    have hnl : (namesL K).length ≤ 16777216 := names_len hc
    have hb : dB (decide (r2 = 1)) = r2 := dB_dec (by omega)
    refine ⟨.free (decide (r2 = 1)), M2, (by show hasK K _ = true; rw [hasK_cnt, decide_eq_true_eq]; show dB (decide (r2 = 1)) < _; rw [hb]; exact hr2), hM2, ?_⟩
    rw [← hfin (.free (decide (r2 = 1))) M2 hM2]
    simp only [Ln.word, kdOf] at hkind hlc
    simp only [eLn, Ln.word, Ln.rest, hb]
    simp [in_sa, in_gz, eq_words, okW, hkind, hnames, hnl, wipeE, hlc, hll, hp2, eq_e1]
  | send bb =>
    have hk0 : 0 < cnt K .p := hlo
    have hk2 := hc .p
    obtain ⟨r2, M2, hr2, hM2, hp2⟩ := pick_ok n (cnt K .p) hk0 (by omega) M1 X hM1
    have hlc := fun a b c d e f g h x8 x9 x10 x11 x12 M => names_lc2 n K (.send bb) .p rfl a b c d e f g h x8 x9 x10 x11 x12 M
    have hll : ∀ M, lenX [.lst (((namesL K).filter fun m => decide (m.kd = .p)).map eNm)] M = .ok (dN (cnt K .p)) M := fun M => by rw [len_of (l := ((namesL K).filter fun m => decide (m.kd = .p)).map eNm) rfl, List.length_map, filt_len]
    have hnl : (namesL K).length ≤ 16777216 := names_len hc
    have hb : dB (decide (r2 = 1)) = r2 := dB_dec (by omega)
    refine ⟨.send (decide (r2 = 1)), M2, (by show hasK K _ = true; rw [hasK_cnt, decide_eq_true_eq]; show dB (decide (r2 = 1)) < _; rw [hb]; exact hr2), hM2, ?_⟩
    rw [← hfin (.send (decide (r2 = 1))) M2 hM2]
    simp only [Ln.word, kdOf] at hkind hlc
    simp only [eLn, Ln.word, Ln.rest, hb]
    simp [in_sa, in_gz, eq_words, okW, hkind, hnames, hnl, wipeE, hlc, hll, hp2, eq_e1]
  | hear bb =>
    have hk0 : 0 < cnt K .p := hlo
    have hk2 := hc .p
    obtain ⟨r2, M2, hr2, hM2, hp2⟩ := pick_ok n (cnt K .p) hk0 (by omega) M1 X hM1
    have hlc := fun a b c d e f g h x8 x9 x10 x11 x12 M => names_lc2 n K (.hear bb) .p rfl a b c d e f g h x8 x9 x10 x11 x12 M
    have hll : ∀ M, lenX [.lst (((namesL K).filter fun m => decide (m.kd = .p)).map eNm)] M = .ok (dN (cnt K .p)) M := fun M => by rw [len_of (l := ((namesL K).filter fun m => decide (m.kd = .p)).map eNm) rfl, List.length_map, filt_len]
    have hnl : (namesL K).length ≤ 16777216 := names_len hc
    have hb : dB (decide (r2 = 1)) = r2 := dB_dec (by omega)
    refine ⟨.hear (decide (r2 = 1)), M2, (by show hasK K _ = true; rw [hasK_cnt, decide_eq_true_eq]; show dB (decide (r2 = 1)) < _; rw [hb]; exact hr2), hM2, ?_⟩
    rw [← hfin (.hear (decide (r2 = 1))) M2 hM2]
    simp only [Ln.word, kdOf] at hkind hlc
    simp only [eLn, Ln.word, Ln.rest, hb]
    simp [in_sa, in_gz, eq_words, okW, hkind, hnames, hnl, wipeE, hlc, hll, hp2, eq_e1]
  | wake bb =>
    have hk0 : 0 < cnt K .s := hlo
    have hk2 := hc .s
    obtain ⟨r2, M2, hr2, hM2, hp2⟩ := pick_ok n (cnt K .s) hk0 (by omega) M1 X hM1
    have hlc := fun a b c d e f g h x8 x9 x10 x11 x12 M => names_lc2 n K (.wake bb) .s rfl a b c d e f g h x8 x9 x10 x11 x12 M
    have hll : ∀ M, lenX [.lst (((namesL K).filter fun m => decide (m.kd = .s)).map eNm)] M = .ok (dN (cnt K .s)) M := fun M => by rw [len_of (l := ((namesL K).filter fun m => decide (m.kd = .s)).map eNm) rfl, List.length_map, filt_len]
    have hnl : (namesL K).length ≤ 16777216 := names_len hc
    have hb : dB (decide (r2 = 1)) = r2 := dB_dec (by omega)
    refine ⟨.wake (decide (r2 = 1)), M2, (by show hasK K _ = true; rw [hasK_cnt, decide_eq_true_eq]; show dB (decide (r2 = 1)) < _; rw [hb]; exact hr2), hM2, ?_⟩
    rw [← hfin (.wake (decide (r2 = 1))) M2 hM2]
    simp only [Ln.word, kdOf] at hkind hlc
    simp only [eLn, Ln.word, Ln.rest, hb]
    simp [in_sa, in_gz, eq_words, okW, hkind, hnames, hnl, wipeE, hlc, hll, hp2, eq_e1]
  | wait bb =>
    have hk0 : 0 < cnt K .s := hlo
    have hk2 := hc .s
    obtain ⟨r2, M2, hr2, hM2, hp2⟩ := pick_ok n (cnt K .s) hk0 (by omega) M1 X hM1
    have hlc := fun a b c d e f g h x8 x9 x10 x11 x12 M => names_lc2 n K (.wait bb) .s rfl a b c d e f g h x8 x9 x10 x11 x12 M
    have hll : ∀ M, lenX [.lst (((namesL K).filter fun m => decide (m.kd = .s)).map eNm)] M = .ok (dN (cnt K .s)) M := fun M => by rw [len_of (l := ((namesL K).filter fun m => decide (m.kd = .s)).map eNm) rfl, List.length_map, filt_len]
    have hnl : (namesL K).length ≤ 16777216 := names_len hc
    have hb : dB (decide (r2 = 1)) = r2 := dB_dec (by omega)
    refine ⟨.wait (decide (r2 = 1)), M2, (by show hasK K _ = true; rw [hasK_cnt, decide_eq_true_eq]; show dB (decide (r2 = 1)) < _; rw [hb]; exact hr2), hM2, ?_⟩
    rw [← hfin (.wait (decide (r2 = 1))) M2 hM2]
    simp only [Ln.word, kdOf] at hkind hlc
    simp only [eLn, Ln.word, Ln.rest, hb]
    simp [in_sa, in_gz, eq_words, okW, hkind, hnames, hnl, wipeE, hlc, hll, hp2, eq_e1]
  | read bb =>
    have hk0 : 0 < cnt K .f := hlo
    have hk2 := hc .f
    obtain ⟨r2, M2, hr2, hM2, hp2⟩ := pick_ok n (cnt K .f) hk0 (by omega) M1 X hM1
    have hlc := fun a b c d e f g h x8 x9 x10 x11 x12 M => names_lc2 n K (.read bb) .f rfl a b c d e f g h x8 x9 x10 x11 x12 M
    have hll : ∀ M, lenX [.lst (((namesL K).filter fun m => decide (m.kd = .f)).map eNm)] M = .ok (dN (cnt K .f)) M := fun M => by rw [len_of (l := ((namesL K).filter fun m => decide (m.kd = .f)).map eNm) rfl, List.length_map, filt_len]
    have hnl : (namesL K).length ≤ 16777216 := names_len hc
    have hb : dB (decide (r2 = 1)) = r2 := dB_dec (by omega)
    refine ⟨.read (decide (r2 = 1)), M2, (by show hasK K _ = true; rw [hasK_cnt, decide_eq_true_eq]; show dB (decide (r2 = 1)) < _; rw [hb]; exact hr2), hM2, ?_⟩
    rw [← hfin (.read (decide (r2 = 1))) M2 hM2]
    simp only [Ln.word, kdOf] at hkind hlc
    simp only [eLn, Ln.word, Ln.rest, hb]
    simp [in_sa, in_gz, eq_words, okW, hkind, hnames, hnl, wipeE, hlc, hll, hp2, eq_e1]
  | note bb =>
    have hk0 : 0 < cnt K .f := hlo
    have hk2 := hc .f
    obtain ⟨r2, M2, hr2, hM2, hp2⟩ := pick_ok n (cnt K .f) hk0 (by omega) M1 X hM1
    have hlc := fun a b c d e f g h x8 x9 x10 x11 x12 M => names_lc2 n K (.note bb) .f rfl a b c d e f g h x8 x9 x10 x11 x12 M
    have hll : ∀ M, lenX [.lst (((namesL K).filter fun m => decide (m.kd = .f)).map eNm)] M = .ok (dN (cnt K .f)) M := fun M => by rw [len_of (l := ((namesL K).filter fun m => decide (m.kd = .f)).map eNm) rfl, List.length_map, filt_len]
    have hnl : (namesL K).length ≤ 16777216 := names_len hc
    have hb : dB (decide (r2 = 1)) = r2 := dB_dec (by omega)
    refine ⟨.note (decide (r2 = 1)), M2, (by show hasK K _ = true; rw [hasK_cnt, decide_eq_true_eq]; show dB (decide (r2 = 1)) < _; rw [hb]; exact hr2), hM2, ?_⟩
    rw [← hfin (.note (decide (r2 = 1))) M2 hM2]
    simp only [Ln.word, kdOf] at hkind hlc
    simp only [eLn, Ln.word, Ln.rest, hb]
    simp [in_sa, in_gz, eq_words, okW, hkind, hnames, hnl, wipeE, hlc, hll, hp2, eq_e1]
  | hand q m => exact hlo.elim
end K76

set_option maxHeartbeats 4000000
namespace HT
open PySem RI
open L2 hiding St
/-! ### houses that the laws draw -/
def mkK (a b : Nat) (c : List Nat) (d e : Nat) : Hs := { rows := [], kc := a, kl := b, kp := c, ks := d, kf := e, given := [], ord := .any, all := false }
def kL (z : Nat) : List Hs := [mkK 1 0 [] 0 0, mkK 0 2 [] 0 0, mkK 1 1 [] 1 0, mkK 0 0 [1 + z] 0 0, mkK 0 1 [] 0 2, mkK 1 1 [1] 1 0, mkK 0 0 [] 0 1, mkK 2 0 [] 0 0, mkK 0 0 [1, 2] 0 0, mkK 0 0 [] 2 0, mkK 1 0 [1, 1] 0 0, mkK 0 0 [] 0 0, mkK 2 1 [1] 1 1]
structure KOk (K : Hs) : Prop where
  kc : K.kc ≤ 2
  kl : K.kl ≤ 2
  kp : K.kp.length ≤ 2 ∧ ∀ z ∈ K.kp, 1 ≤ z ∧ z ≤ 2
  ks : K.ks ≤ 2
  kf : K.kf ≤ 2
theorem kL_ok {z : Nat} (hz : z < 2) : ∀ K ∈ kL z, KOk K := by
  intro K hK
  simp only [kL, List.mem_cons, List.not_mem_nil, or_false] at hK
  rcases hK with rfl | rfl | rfl | rfl | rfl | rfl | rfl | rfl | rfl | rfl | rfl | rfl | rfl <;> refine ⟨?_, ?_, ⟨?_, ?_⟩, ?_, ?_⟩ <;> simp [mkK] <;> omega
theorem KOk.cnt {K : Hs} (h : KOk K) (k : Kd) : cnt K k ≤ 2 := by
  cases k
  · exact h.kc
  · exact h.kf
  · exact h.kl
  · exact h.kp.1
  · exact h.ks
def nmLt (a b : Nm) : Prop := PySem.W.dataLt (D.toP (eNm a)) (D.toP (eNm b)) = true
instance : DecidableRel nmLt := fun a b => inferInstanceAs (Decidable (_ = true))
def allNmT : List Nm := allKd.flatMap fun k => [⟨k, false⟩, ⟨k, true⟩]
theorem allNm_lt : allNmT.Pairwise nmLt := by decide
theorem names_sub {K : Hs} (hc : ∀ k, cnt K k ≤ 2) : (namesL K).Sublist allNmT := by
  have h1 : ∀ k, ((List.range (cnt K k)).map (nmI k)).Sublist [⟨k, false⟩, ⟨k, true⟩] := by
    intro k
    have h2 := hc k
    generalize cnt K k = c at h2
    match c, h2 with
    | 0, _ => exact List.nil_sublist _
    | 1, _ => exact List.Sublist.cons₂ _ (List.nil_sublist _)
    | 2, _ => exact List.Sublist.refl _
  unfold namesL allNmT
  generalize allKd = l
  induction l with
  | nil => exact List.Sublist.refl _
  | cons k l ih =>
    simp only [List.flatMap_cons]
    exact (h1 k).append ih
theorem names_lt {K : Hs} (hc : ∀ k, cnt K k ≤ 2) : (namesL K).Pairwise nmLt := allNm_lt.sublist (names_sub hc)
end HT

set_option maxHeartbeats 2000000
namespace K76
open PySem RI HT
open L2 hiding St
theorem draw_lines (n : Nat) (K : Hs) (hK : KOk K) (many lines : Nat) (hl : lines ≤ 100) (X : Mem) (a1 x3 x4 x6 x7 x9 x10 x11 x12 x13 : Option D) : ∀ (l : List Nat) (M : Mem), (∀ s ∈ l, s < lines) → HP M X → ∃ (ls : List Ln) (M' : Mem), ls.length = l.length ∧ (∀ x ∈ ls, lnK K lines x) ∧ HP M' X ∧
    lcG none lg_39_0 lt_39_0 le_39_0 (callF tb (n + 2)) [some (.obj 0), a1, some (eKinds K), x3, x4, some (dN many), x6, x7, some (dN lines), x9, x10, x11, x12, x13] (l.map dN) M = .ok (ls.map eLn) M'
  | [], M, _, h => ⟨[], M, rfl, (by simp), h, rfl⟩
  | s :: l, M, hs, h => by
    obtain ⟨x, M1, h1, h2, h3⟩ := law_line n K hK.cnt many s lines (hs s List.mem_cons_self) hl M X h
    obtain ⟨ls, M2, q1, q2, q3, q4⟩ := draw_lines n K hK many lines hl X a1 x3 x4 x6 x7 x9 x10 x11 x12 x13 l M1 (fun s hs' => hs s (List.mem_cons_of_mem _ hs')) h2
    refine ⟨x :: ls, M2, by simp [q1], ?_, q3, ?_⟩
    · intro y hy
      rcases List.mem_cons.mp hy with rfl | hy
      · exact h1
      · exact q2 y hy
    · simp [lcG, lg_39_0, lt_39_0, le_39_0, h3]
      simp [lg_39_0, lt_39_0, le_39_0] at q4
      rw [q4]
      rfl
/-- lines as they stand in a house -/
def lnG (K : Hs) (many lines : Nat) (l : Ln) : Prop := match l with
  | .hand p m => p < many ∧ hasK K m = true
  | l => lnK K lines l
def rowOk (K : Hs) (many : Nat) (r : List Ln) : Prop := 1 ≤ r.length ∧ r.length ≤ 10 ∧ ∀ l ∈ r, lnG K many r.length l
def givOk (K : Hs) (g : List Nm) : Prop := (∀ m ∈ g, hasK K m = true) ∧ g.Pairwise nmLt
theorem lnG_mono {K : Hs} {many a b : Nat} (hab : a ≤ b) {l : Ln} (h : lnK K a l) : lnG K many b l := by
  cases l with
  | zero j => exact Nat.le_trans h hab
  | go j => exact Nat.le_trans h hab
  | hand p m => exact h.elim
  | _ => exact h
theorem max_nat (a b : Nat) (M : Mem) : max2D [dN a, dN b] M = .ok (dN (max a b)) M := by
  simp only [max2D]
  by_cases h : a < b
  · simp [h, Nat.max_eq_right (Nat.le_of_lt h)]
  · simp [h, Nat.max_eq_left (Nat.le_of_not_lt h)]
theorem eq_lnm (n : Bool) (l : List Nm) (M : Mem) : eqD n (.lst (l.map eNm)) (.lst []) M = .ok (.bl (if n then !l.isEmpty else l.isEmpty)) M := by
  have hn : Nice eNm := ⟨fun _ => rfl, fun e => by have := enc_nm.fine e; simp only [D.fine, Bool.and_eq_true] at this; exact this.1.2, fun e => Nat.zero_le _⟩
  exact eq_nil hn n l M
theorem row_turn (n : Nat) (K : Hs) (hK : KOk K) (most many : Nat) (hmo : 2 ≤ most ∧ most ≤ 10) (hma : 1 ≤ many ∧ many ≤ 3) (rows : List (List Ln)) (given : List (List Nm)) (hrl : rows.length ≤ 10) (hgl : given.length ≤ 10) (k : Nat) (x3 x4 x8 x9 x10 x11 x12 x13 : Option D) (M X : Mem) (h : HP M X) :
    ∃ (r : List Ln) (g : List Nm) (M' : Mem) (y8 y9 y10 y11 y12 y13 : Option D), rowOk K many r ∧ givOk K g ∧ HP M' X ∧ (fg_39_2 (callF tb (n + 2)) (dN k) [some (.obj 0), some (dN most), some (eKinds K), x3, x4, some (dN many), some (eRows rows), some (eRights given), x8, x9, x10, x11, x12, x13] M).bind (fun r1 M1 => fb_39_2 (callF tb (n + 2)) r1 M1) = .ok (.next [some (.obj 0), some (dN most), some (eKinds K), some (dN k), x4, some (dN many), some (eRows (rows ++ [r])), some (eRights (given ++ [g])), y8, y9, y10, y11, y12, y13]) M' := by
  obtain ⟨b, hb2, hbm, hbe⟩ : ∃ b : Nat, 2 ≤ b ∧ b ≤ most ∧ b = if many < 3 then most else max 2 (most - 2) := ⟨_, by split <;> omega, by split <;> omega, rfl⟩
  obtain ⟨r1, M1, hr1, hM1, hp1⟩ := pick_ok (n + 1) b (by omega) (by omega) M X h
  obtain ⟨L, hL⟩ : ∃ L, L = 1 + r1 := ⟨_, rfl⟩
  have hLi : D.int (1 + (r1 : Int)) = dN L := by
    rw [hL]
    rfl
  have hL10 : L ≤ 10 := by omega
  have hS1 : (mAsg (mB addD (mC (.int 1)) (mCall 35 (mCons (mVar 0) (mCons (mIf (mTB (mB ltD (mVar 5) (mC (.int 3)))) (mVar 1) (mBl maxLD (mCons (mC (.int 2)) (mCons (mB subD (mVar 1) (mC (.int 2))) mNil)))) mNil)))) (gN 8)) (callF tb (n + 2)) [some (.obj 0), some (dN most), some (eKinds K), some (dN k), x4, some (dN many), some (eRows rows), some (eRights given), x8, x9, x10, x11, x12, x13] M = .ok (.next [some (.obj 0), some (dN most), some (eKinds K), some (dN k), x4, some (dN many), some (eRows rows), some (eRights given), some (dN L), x9, x10, x11, x12, x13]) M1 := by
    by_cases h3 : many < 3
    · rw [if_pos h3] at hbe
      subst hbe
      have h3i : (many : Int) < 3 := by omega
      simp [h3i, hp1, hLi]
    · rw [if_neg h3] at hbe
      have hmx : ∀ M, max2D [.int 2, .int ((most : Int) - 2)] M = .ok (dN b) M := by
        intro M
        rw [hbe, ← max_nat 2 (most - 2) M]
        have : (most : Int) - 2 = ((most - 2 : Nat) : Int) := by omega
        rw [this]
        rfl
      have h3i : ¬ (many : Int) < 3 := by omega
      simp [h3i, hmx, hp1, hLi]
  obtain ⟨ls, M2, hll, hlk, hM2, hlc⟩ := draw_lines n K hK many L (by omega) X (some (dN most)) (some (dN k)) x4 (some (eRows rows)) (some (eRights given)) x9 x10 x11 none x13 (List.range L) M1 (fun s hs => List.mem_range.mp hs) hM1
  rw [List.length_range] at hll
  have hS2 : (mAsg (mBl toTupD (mCons (mLc (mRng1 (mCons (mVar 8) mNil)) lg_39_0 lt_39_0 le_39_0 [12]) mNil)) (gN 9)) (callF tb (n + 2)) [some (.obj 0), some (dN most), some (eKinds K), some (dN k), x4, some (dN many), some (eRows rows), some (eRights given), some (dN L), x9, x10, x11, x12, x13] M1 = .ok (.next [some (.obj 0), some (dN most), some (eKinds K), some (dN k), x4, some (dN many), some (eRows rows), some (eRights given), some (dN L), some (eTup eLn ls), x10, x11, x12, x13]) M2 := by
    have h1 : L ≤ 1000 := by omega
    have h2 : L ≤ 16777216 := by omega
    simp [h1, h2, rng0, rng_len, wipeE, hlc]
  have hnames := fun M => law_names (n + 1) K hK.cnt M
  have hS3 : (mAsg (mCall 36 (mCons (mVar 2) mNil)) (gN 10)) (callF tb (n + 2)) [some (.obj 0), some (dN most), some (eKinds K), some (dN k), x4, some (dN many), some (eRows rows), some (eRights given), some (dN L), some (eTup eLn ls), x10, x11, x12, x13] M2 = .ok (.next [some (.obj 0), some (dN most), some (eKinds K), some (dN k), x4, some (dN many), some (eRows rows), some (eRights given), some (dN L), some (eTup eLn ls), some (.lst ((namesL K).map eNm)), x11, x12, x13]) M2 := by
    simp [hnames]
  have hfg : fg_39_2 (callF tb (n + 2)) (dN k) [some (.obj 0), some (dN most), some (eKinds K), x3, x4, some (dN many), some (eRows rows), some (eRights given), x8, x9, x10, x11, x12, x13] M = .ok [some (.obj 0), some (dN most), some (eKinds K), some (dN k), x4, some (dN many), some (eRows rows), some (eRights given), x8, x9, x10, x11, x12, x13] M := rfl
  rw [hfg, Res.bind_ok]
  simp only [fb_39_2, ap_seq, hS1, hS2, hS3, Res.bind_ok]
  clear hS1 hS2 hS3 hfg hlc
  have hgiv : ∀ g : List Nm, g.Sublist (namesL K) → givOk K g := fun g hg => ⟨fun m hm => (mem_names hK.cnt m).mp (hg.subset hm), (names_lt hK.cnt).sublist hg⟩
  have hrow : rowOk K many ls := ⟨by omega, by omega, fun l hl => lnG_mono (by omega) (hlk l hl)⟩
  have e1 : ∀ r : List Ln, addD (eRows rows) (.tup [eTup eLn r]) = fun M => .ok (eRows (rows ++ [r])) M := by
    intro r
    funext M
    unfold eRows eTup
    rw [add_tup (by simp; show _ ≤ 16777216; omega), List.map_append]
    rfl
  have e2 : ∀ g : List Nm, addD (eRights given) (.tup [eTup eNm g]) = fun M => .ok (eRights (given ++ [g])) M := by
    intro g
    funext M
    unfold eRights eTup
    rw [add_tup (by simp; show _ ≤ 16777216; omega), List.map_append]
    rfl
  have hnl : (namesL K).length ≤ 16777216 := names_len hK.cnt
  cases hne : (namesL K).isEmpty with
  | true =>
    refine ⟨ls, namesL K, M2, some (dN L), some (eTup eLn ls), some (.lst ((namesL K).map eNm)), x11, x12, x13, hrow, hgiv _ (List.Sublist.refl _), hM2, ?_⟩
    simp [eq_lnm, hne, e1, e2]
  | false =>
    obtain ⟨r2, M3, hr2, hM3, hp2⟩ := pick_ok (n + 1) 4 (by decide) (by decide) M2 X hM2
    have hp2' : callF tb (n + 2) 35 [.obj 0, .int 4] M2 = .ok (dN r2) M3 := hp2
    by_cases hz : r2 = 0
    · subst hz
      have hnp : 1 ≤ (namesL K).length := by
        cases e : namesL K with
        | nil => rw [e] at hne; cases hne
        | cons a l => simp
      obtain ⟨r3, M4, hr3, hM4, hp3⟩ := pick_ok (n + 1) (namesL K).length hnp (by omega) M3 X hM3
      have hlen : ∀ M, lenX [.lst ((namesL K).map eNm)] M = .ok (dN (namesL K).length) M := fun M => by rw [len_of (l := (namesL K).map eNm) rfl, List.length_map]
      obtain ⟨gone, hgone⟩ := some_at hr3
      have hgm : gone ∈ namesL K := List.mem_of_getElem? hgone
      obtain ⟨r4, M5, hr4, hM5, hp4⟩ := pick_ok (n + 1) 2 (by decide) (by decide) M4 X hM4
      have hp4' : callF tb (n + 2) 35 [.obj 0, .int 2] M4 = .ok (dN r4) M5 := hp4
      have hlc2 := fun (a b c d e f g h x8 x9 x10 x12 : Option D) (M : Mem) => lc_ok (gd := none) (g := lg_39_1) (mt := lt_39_1) (me := le_39_1) (F := callF tb (n + 2)) (r := [a, b, c, d, e, f, g, h, x8, x9, x10, some (eNm gone), x12, none]) (enc := eNm) (M := M) rfl (fun m => !decide (m = gone)) eNm (namesL K) fun m _ => by
        exact ⟨[a, b, c, d, e, f, g, h, x8, x9, x10, some (eNm gone), x12, some (eNm m)], by simp [lg_39_1], by simp [lt_39_1, enc_nm.eq], fun _ => by simp [le_39_1]⟩
      have hg2 : givOk K ((namesL K).filter fun m => !decide (m = gone)) := hgiv _ List.filter_sublist
      generalize hgg : ((namesL K).filter fun m => !decide (m = gone)) = g2 at hlc2 hg2
      have hg2l : g2.length ≤ (namesL K).length := by rw [← hgg]; exact List.length_filter_le _ _
      by_cases hz4 : r4 = 0
      · subst hz4
        obtain ⟨r5, M6, hr5, hM6, hp5⟩ := pick_ok (n + 1) many hma.1 (by omega) M5 X hM5
        obtain ⟨m0, hm0⟩ := some_at (l := g2 ++ [gone]) (i := 0) (by simp)
        have hm0k : hasK K m0 = true := by
          rcases List.mem_append.mp (List.mem_of_getElem? hm0) with hm | hm
          · exact hg2.1 m0 hm
          · rw [List.mem_singleton] at hm
            subst hm
            exact (mem_names hK.cnt m0).mp hgm
        have ha1 : ∀ M, addD (.lst (g2.map eNm)) (.lst [eNm gone]) M = .ok (.lst ((g2 ++ [gone]).map eNm)) M := fun M => by
          rw [add_lst (by simp; show _ ≤ 16777216; have : (namesL K).length ≤ 10 := nodup_le ((names_lt hK.cnt).imp fun {a b} h e => by subst e; exact absurd h (by obtain ⟨k, i⟩ := a; cases k <;> cases i <;> decide)); omega), List.map_append]
          rfl
        have hi0 : ∀ M, ixD (.lst ((g2 ++ [gone]).map eNm)) (.int 0) M = .ok (eNm m0) M := fun M => by
          have := ixL eNm (g2 ++ [gone]) 0 M
          rw [hm0] at this
          exact this
        have hsl : ∀ M, slD (eTup eLn ls) none (some 9) M = .ok (eTup eLn (ls.take 9)) M := fun M => sl_hi eLn ls 9 M
        have ha2 : ∀ M, addD (eTup eLn (ls.take 9)) (.tup [.tup [.str [104, 97, 110, 100], dN r5, eNm m0]]) M = .ok (eTup eLn (ls.take 9 ++ [.hand r5 m0])) M := fun M => by
          unfold eTup
          rw [add_tup (by simp; show _ ≤ 16777216; omega), List.map_append]
          rfl
        have hrow2 : rowOk K many (ls.take 9 ++ [.hand r5 m0]) := by
          refine ⟨by simp, by simp; omega, ?_⟩
          intro l hl
          rcases List.mem_append.mp hl with hl | hl
          · exact lnG_mono (by simp; omega) (hlk l (List.mem_of_mem_take hl))
          · rw [List.mem_singleton] at hl
            subst hl
            exact ⟨hr5, hm0k⟩
        refine ⟨ls.take 9 ++ [.hand r5 m0], g2, M6, some (dN L), some (eTup eLn (ls.take 9 ++ [.hand r5 m0])), some (.lst (g2.map eNm)), some (eNm gone), x12, x13, hrow2, hg2, hM6, ?_⟩
        simp only [List.map_append, List.map_cons, List.map_nil] at hi0 ha1
        simp [eq_lnm, hne, e1, e2, hp2', hlen, hp3, hgone, hnl, wipeE, hlc2, hp4', hp5, ha1, hi0, hsl, ha2, -List.map_take]
      · refine ⟨ls, g2, M5, some (dN L), some (eTup eLn ls), some (.lst (g2.map eNm)), some (eNm gone), x12, x13, hrow, hg2, hM5, ?_⟩
        simp [eq_lnm, hne, e1, e2, hp2', hlen, hp3, hgone, hnl, wipeE, hlc2, hp4', hz4]
    · refine ⟨ls, namesL K, M3, some (dN L), some (eTup eLn ls), some (.lst ((namesL K).map eNm)), x11, x12, x13, hrow, hgiv _ (List.Sublist.refl _), hM3, ?_⟩
      simp [eq_lnm, hne, e1, e2, hp2', hz]
end K76

set_option maxHeartbeats 2000000
namespace K76
open PySem RI HT
open L2 hiding St
theorem row_loop (n : Nat) (K : Hs) (hK : KOk K) (most many : Nat) (hmo : 2 ≤ most ∧ most ≤ 10) (hma : 1 ≤ many ∧ many ≤ 3) (x4 : Option D) (X : Mem) : ∀ (l : List Nat) (rows : List (List Ln)) (given : List (List Nm)) (x3 x8 x9 x10 x11 x12 x13 : Option D) (M : Mem), rows.length + l.length ≤ 10 → given.length = rows.length → (∀ r ∈ rows, rowOk K many r) → (∀ g ∈ given, givOk K g) → HP M X →
    ∃ (rows' : List (List Ln)) (given' : List (List Nm)) (M' : Mem) (y3 y8 y9 y10 y11 y12 y13 : Option D), rows'.length = rows.length + l.length ∧ given'.length = rows'.length ∧ (∀ r ∈ rows', rowOk K many r) ∧ (∀ g ∈ given', givOk K g) ∧ HP M' X ∧ forG none fg_39_2 fb_39_2 (callF tb (n + 2)) (l.map dN) [some (.obj 0), some (dN most), some (eKinds K), x3, x4, some (dN many), some (eRows rows), some (eRights given), x8, x9, x10, x11, x12, x13] M = .ok (.next [some (.obj 0), some (dN most), some (eKinds K), y3, x4, some (dN many), some (eRows rows'), some (eRights given'), y8, y9, y10, y11, y12, y13]) M'
  | [], rows, given, x3, x8, x9, x10, x11, x12, x13, M, _, hg, h1, h2, h => ⟨rows, given, M, x3, x8, x9, x10, x11, x12, x13, by simp, hg, h1, h2, h, rfl⟩
  | k :: l, rows, given, x3, x8, x9, x10, x11, x12, x13, M, hz, hg, h1, h2, h => by
    simp only [List.length_cons] at hz
    obtain ⟨r, g, M1, y8, y9, y10, y11, y12, y13, q1, q2, q3, q4⟩ := row_turn n K hK most many hmo hma rows given (by omega) (by omega) k x3 x4 x8 x9 x10 x11 x12 x13 M X h
    obtain ⟨rows', given', M', z3, z8, z9, z10, z11, z12, z13, p1, p2, p3, p4, p5, p6⟩ := row_loop n K hK most many hmo hma x4 X l (rows ++ [r]) (given ++ [g]) (some (dN k)) y8 y9 y10 y11 y12 y13 M1 (by simp; omega) (by simp [hg]) (by
      intro r' hr'
      rcases List.mem_append.mp hr' with hr' | hr'
      · exact h1 r' hr'
      · rw [List.mem_singleton] at hr'; subst hr'; exact q1) (by
      intro g' hg'
      rcases List.mem_append.mp hg' with hg' | hg'
      · exact h2 g' hg'
      · rw [List.mem_singleton] at hg'; subst hg'; exact q2) q3
    refine ⟨rows', given', M', z3, z8, z9, z10, z11, z12, z13, by simp at p1 ⊢; omega, p2, p3, p4, p5, ?_⟩
    simp only [List.map_cons, forG, gd_none, if_true]
    rw [← RI.bind_assoc, q4, Res.bind_ok]
    exact p6
theorem lnG_ok {H K : Hs} {many lines : Nat} (hm : H.rows.length = many) (hk : ∀ m, hasK H m = hasK K m) {l : Ln} (h : lnG K many lines l) : lnOk H lines l = true := by
  cases l <;> simp only [lnG, lnK, Ln.thing] at h <;> simp only [lnOk, Ln.thing, decide_eq_true_eq, hk, Bool.and_eq_true] <;> first | exact h | (rw [hm]; exact h) | trivial
def ways : List Od := [.any, .any, .ring, .rank, .lent]
theorem law_house (n : Nat) (most : Nat) (hmo : 2 ≤ most ∧ most ≤ 10) (M X : Mem) (h : HP M X) : ∃ (H : Hs) (M' : Mem), HOk H ∧ HP M' X ∧ callF tb (n + 3) 39 [.obj 0, dN most] M = .ok (.obj M.length) (M' ++ [.dks false (hDks H)]) := by
  rw [u_39]
  obtain ⟨z, M1, hz, hM1, hp1⟩ := pick_ok (n + 1) 2 (by decide) (by decide) M X h
  obtain ⟨r, M2, hr, hM2, hp2⟩ := pick_ok (n + 1) 13 (by decide) (by decide) M1 X hM1
  have hp1' : callF tb (n + 2) 35 [.obj 0, .int 2] M = .ok (dN z) M1 := hp1
  have hp2' : callF tb (n + 2) 35 [.obj 0, .int 13] M1 = .ok (dN r) M2 := hp2
  obtain ⟨K, hKr⟩ := some_at (l := kL z) (i := r) hr
  have hK : KOk K := kL_ok hz K (List.mem_of_getElem? hKr)
  have hix : ∀ M, ixD (.lst [.tup [.int 1, .int 0, .tup [], .int 0, .int 0], .tup [.int 0, .int 2, .tup [], .int 0, .int 0], .tup [.int 1, .int 1, .tup [], .int 1, .int 0], .tup [.int 0, .int 0, .tup [.int (1 + (z : Int))], .int 0, .int 0], .tup [.int 0, .int 1, .tup [], .int 0, .int 2], .tup [.int 1, .int 1, .tup [.int 1], .int 1, .int 0], .tup [.int 0, .int 0, .tup [], .int 0, .int 1], .tup [.int 2, .int 0, .tup [], .int 0, .int 0], .tup [.int 0, .int 0, .tup [.int 1, .int 2], .int 0, .int 0], .tup [.int 0, .int 0, .tup [], .int 2, .int 0], .tup [.int 1, .int 0, .tup [.int 1, .int 1], .int 0, .int 0], .tup [.int 0, .int 0, .tup [], .int 0, .int 0], .tup [.int 2, .int 1, .tup [.int 1], .int 1, .int 1]]) (.int (r : Int)) M = .ok (eKinds K) M := fun M => by
    have := ixL eKinds (kL z) r M
    rw [hKr] at this
    exact this
  have hS1 : (mAsg (mB ixD (mLst (mCons (mTup (mCons (mC (.int 1)) (mCons (mC (.int 0)) (mCons (mTup mNil) (mCons (mC (.int 0)) (mCons (mC (.int 0)) mNil)))))) (mCons (mTup (mCons (mC (.int 0)) (mCons (mC (.int 2)) (mCons (mTup mNil) (mCons (mC (.int 0)) (mCons (mC (.int 0)) mNil)))))) (mCons (mTup (mCons (mC (.int 1)) (mCons (mC (.int 1)) (mCons (mTup mNil) (mCons (mC (.int 1)) (mCons (mC (.int 0)) mNil)))))) (mCons (mTup (mCons (mC (.int 0)) (mCons (mC (.int 0)) (mCons (mTup (mCons (mB addD (mC (.int 1)) (mCall 35 (mCons (mVar 0) (mCons (mC (.int 2)) mNil)))) mNil)) (mCons (mC (.int 0)) (mCons (mC (.int 0)) mNil)))))) (mCons (mTup (mCons (mC (.int 0)) (mCons (mC (.int 1)) (mCons (mTup mNil) (mCons (mC (.int 0)) (mCons (mC (.int 2)) mNil)))))) (mCons (mTup (mCons (mC (.int 1)) (mCons (mC (.int 1)) (mCons (mTup (mCons (mC (.int 1)) mNil)) (mCons (mC (.int 1)) (mCons (mC (.int 0)) mNil)))))) (mCons (mTup (mCons (mC (.int 0)) (mCons (mC (.int 0)) (mCons (mTup mNil) (mCons (mC (.int 0)) (mCons (mC (.int 1)) mNil)))))) (mCons (mTup (mCons (mC (.int 2)) (mCons (mC (.int 0)) (mCons (mTup mNil) (mCons (mC (.int 0)) (mCons (mC (.int 0)) mNil)))))) (mCons (mTup (mCons (mC (.int 0)) (mCons (mC (.int 0)) (mCons (mTup (mCons (mC (.int 1)) (mCons (mC (.int 2)) mNil))) (mCons (mC (.int 0)) (mCons (mC (.int 0)) mNil)))))) (mCons (mTup (mCons (mC (.int 0)) (mCons (mC (.int 0)) (mCons (mTup mNil) (mCons (mC (.int 2)) (mCons (mC (.int 0)) mNil)))))) (mCons (mTup (mCons (mC (.int 1)) (mCons (mC (.int 0)) (mCons (mTup (mCons (mC (.int 1)) (mCons (mC (.int 1)) mNil))) (mCons (mC (.int 0)) (mCons (mC (.int 0)) mNil)))))) (mCons (mTup (mCons (mC (.int 0)) (mCons (mC (.int 0)) (mCons (mTup mNil) (mCons (mC (.int 0)) (mCons (mC (.int 0)) mNil)))))) (mCons (mTup (mCons (mC (.int 2)) (mCons (mC (.int 1)) (mCons (mTup (mCons (mC (.int 1)) mNil)) (mCons (mC (.int 1)) (mCons (mC (.int 1)) mNil)))))) mNil)))))))))))))) (mCall 35 (mCons (mVar 0) (mCons (mC (.int 13)) mNil)))) (gN 2)) (callF tb (n + 2)) [some (.obj 0), some (dN most), none, none, none, none, none, none, none, none, none, none, none, none] M = .ok (.next [some (.obj 0), some (dN most), some (eKinds K), none, none, none, none, none, none, none, none, none, none, none]) M2 := by
    simp [hp1', hp2', hix]
  obtain ⟨r3, M3, hr3, hM3, hp3⟩ := pick_ok (n + 1) 3 (by decide) (by decide) M2 X hM2
  have hp3' : callF tb (n + 2) 35 [.obj 0, .int 3] M2 = .ok (dN r3) M3 := hp3
  obtain ⟨many, hmy⟩ : ∃ m, m = 1 + r3 := ⟨_, rfl⟩
  have hmi : D.int (1 + (r3 : Int)) = dN many := by rw [hmy]; rfl
  have hma : 1 ≤ many ∧ many ≤ 3 := by omega
  have er : D.tup [] = eRows [] := rfl
  have eg : D.tup [] = eRights [] := rfl
  have hS2 : (mAsg (mTup (mCons (mB addD (mC (.int 1)) (mCall 35 (mCons (mVar 0) (mCons (mC (.int 3)) mNil)))) (mCons (mTup mNil) (mCons (mTup mNil) mNil)))) (gTp 3 (gsCons (gN 5) (gsCons (gN 6) (gsCons (gN 7) gsNil))))) (callF tb (n + 2)) [some (.obj 0), some (dN most), some (eKinds K), none, none, none, none, none, none, none, none, none, none, none] M2 = .ok (.next [some (.obj 0), some (dN most), some (eKinds K), none, none, some (dN many), some (eRows []), some (eRights []), none, none, none, none, none, none]) M3 := by
    simp [hp3', hmi]
    exact ⟨er, eg⟩
  obtain ⟨rows, given, M4, y3, y8, y9, y10, y11, y12, y13, p1, p2, p3, p4, hM4, p6⟩ := row_loop n K hK most many hmo hma none X (List.range many) [] [] none none none none none none none M3 (by simp; omega) rfl (by simp) (by simp) hM3
  have hS3 : (mFor (mRng1 (mCons (mVar 5) mNil)) fg_39_2 fb_39_2) (callF tb (n + 2)) [some (.obj 0), some (dN most), some (eKinds K), none, none, some (dN many), some (eRows []), some (eRights []), none, none, none, none, none, none] M3 = .ok (.next [some (.obj 0), some (dN most), some (eKinds K), y3, none, some (dN many), some (eRows rows), some (eRights given), y8, y9, y10, y11, y12, y13]) M4 := by
    have h1 : many ≤ 1000 := by omega
    simp [h1, rng0, p6]
  obtain ⟨r5, M5, hr5, hM5, hp5⟩ := pick_ok (n + 1) 5 (by decide) (by decide) M4 X hM4
  have hp5' : callF tb (n + 2) 35 [.obj 0, .int 5] M4 = .ok (dN r5) M5 := hp5
  obtain ⟨r6, M6, hr6, hM6, hp6⟩ := pick_ok (n + 1) 2 (by decide) (by decide) M5 X hM5
  have hp6' : callF tb (n + 2) 35 [.obj 0, .int 2] M5 = .ok (dN r6) M6 := hp6
  obtain ⟨od, hod⟩ := some_at (l := ways) (i := r5) hr5
  obtain ⟨al, hal⟩ := some_at (l := [false, true]) (i := r6) hr6
  have hw1 : ∀ M, ixD (.lst [.str [97, 110, 121], .str [97, 110, 121], .str [114, 105, 110, 103], .str [114, 97, 110, 107], .str [108, 101, 110, 116]]) (.int (r5 : Int)) M = .ok (.str od.txt) M := fun M => by
    have := ixL (fun o : Od => D.str o.txt) ways r5 M
    rw [hod] at this
    exact this
  have hw2 : ∀ M, ixD (.lst [.str [111, 119, 110], .str [97, 108, 108]]) (.int (r6 : Int)) M = .ok (.str (mkTxt al)) M := fun M => by
    have := ixL (fun b : Bool => D.str (mkTxt b)) [false, true] r6 M
    rw [hal] at this
    exact this
  obtain ⟨H, hH⟩ : ∃ H : Hs, H = { K with rows := rows, given := given, ord := od, all := al } := ⟨_, rfl⟩
  have hway : eWay H = .tup [.str od.txt, .str (mkTxt al)] := by rw [hH]; rfl
  have hS4 : (mAsg (mTup (mCons (mB ixD (mLst (mCons (mC (.str [97, 110, 121])) (mCons (mC (.str [97, 110, 121])) (mCons (mC (.str [114, 105, 110, 103])) (mCons (mC (.str [114, 97, 110, 107])) (mCons (mC (.str [108, 101, 110, 116])) mNil)))))) (mCall 35 (mCons (mVar 0) (mCons (mC (.int 5)) mNil)))) (mCons (mB ixD (mLst (mCons (mC (.str [111, 119, 110])) (mCons (mC (.str [97, 108, 108])) mNil))) (mCall 35 (mCons (mVar 0) (mCons (mC (.int 2)) mNil)))) mNil))) (gN 4)) (callF tb (n + 2)) [some (.obj 0), some (dN most), some (eKinds K), y3, none, some (dN many), some (eRows rows), some (eRights given), y8, y9, y10, y11, y12, y13] M4 = .ok (.next [some (.obj 0), some (dN most), some (eKinds K), y3, some (eWay H), some (dN many), some (eRows rows), some (eRights given), y8, y9, y10, y11, y12, y13]) M6 := by
    simp [hp5', hp6', hw1, hw2, hway]
  have hlm : rows.length = many := by simpa using p1
  have hkk : ∀ m, hasK H m = hasK K m := fun m => by rw [hH]; rfl
  have hrl : H.rows.length = many := by rw [hH]; exact hlm
  have hO : HOk H := by
    refine ⟨by omega, ?_, by rw [hH]; exact hK.kc, by rw [hH]; exact hK.kl, by rw [hH]; exact hK.kp, by rw [hH]; exact hK.ks, by rw [hH]; exact hK.kf, by rw [hH]; exact p2, ?_⟩
    · intro r' hr'
      rw [hH] at hr'
      obtain ⟨o1, o2, o3⟩ := p3 r' hr'
      exact ⟨o1, o2, fun l hl => lnG_ok hrl hkk (o3 l hl)⟩
    · intro g hg
      rw [hH] at hg
      obtain ⟨o1, o2⟩ := p4 g hg
      exact ⟨fun m hm => by rw [hkk]; exact o1 m hm, o2⟩
  refine ⟨H, M6, hO, hM6, ?_⟩
  simp only [b_39, ap_seq, hS1, hS2, hS3, hS4, Res.bind_ok]
  clear hS1 hS2 hS3 hS4
  have hd : [(D.str [114, 111, 119, 115], eRows rows), (.str [107, 105, 110, 100, 115], eKinds K), (.str [103, 105, 118, 101, 110], eRights given), (.str [119, 97, 121], eWay H)] = hDks H := by rw [hH]; rfl
  have hbel : D.bels M6.length ([eRows rows, eKinds K, eRights given, eWay H]) = true := by
    have := noO_hs H
    rw [hH] at this ⊢
    exact bels_pure _ _ this
  have hlen : M6.length = M.length := by rw [hp_len hM6, hp_len h]
  simp only [ap_ret, ap_dks, ap_evP0, ap_evP1, ap_var, List.getElem?_cons_zero, List.getElem?_cons_succ, Res.bind_ok, Res.noX]
  rw [if_pos ⟨by decide, hbel⟩, hd, hlen]
  rfl
end K76

set_option maxHeartbeats 4000000
namespace HT
open PySem RI
open L2 hiding St
/-! ### standings that come are good -/
theorem insN_mem (n m : Nm) (r : List Nm) : m ∈ insN n r ↔ m = n ∨ m ∈ r := by
  unfold insN
  rw [(List.mergeSort_perm _ _).mem_iff]
  split
  · constructor
    · exact .inr
    · rintro (rfl | h)
      · assumption
      · exact h
  · rw [List.mem_append, List.mem_singleton]
    exact Or.comm
theorem insN_nodup {n : Nm} {r : List Nm} (h : r.Nodup) : (insN n r).Nodup := by
  unfold insN
  rw [(List.mergeSort_perm _ _).nodup_iff]
  split
  · exact h
  · rename_i hn
    rw [List.nodup_append]
    refine ⟨h, by simp, ?_⟩
    intro a ha b hb
    rw [List.mem_singleton] at hb
    subst hb
    exact fun e => hn (e ▸ ha)
theorem nmLt_nodup {g : List Nm} (h : g.Pairwise nmLt) : g.Nodup := h.imp fun {a b} h e => by
  subst e
  exact absurd h (by obtain ⟨k, i⟩ := a; cases k <;> cases i <;> decide)
theorem good_begun {H : Hs} (ho : HOk H) {blocks : List Nat} (hb : blocks.length = H.kf) : Good H (begun H blocks) where
  places := List.length_replicate
  numbers := List.length_replicate
  cells := List.length_replicate
  owners := List.length_replicate
  pipes := List.length_replicate
  signals := List.length_replicate
  blocks := hb
  disk := hb
  rights := ho.given
  own := by
    intro o h p e
    have h : o ∈ List.replicate H.kl none := h
    rw [List.mem_replicate] at h
    rw [h.2] at e
    cases e
  turn := ⟨by show (-1 : Int) ≤ -1; omega, by show (-1 : Int) < _; have := ho.many; omega⟩
  few := by show 0 + 0 ≤ _; omega
  nodup := fun r hr => nmLt_nodup (ho.names r hr).2
  kinds := fun r hr => (ho.names r hr).1
  notes := fun e he => by cases he
theorem good_go {H : Hs} (ho : HOk H) {s : St} (g : Good H s) (hm : s.log.length + s.buffer.length < 1000000) {p : Nat} (hp : p < H.rows.length) {l : Ln} (el : lineOf H s p = some l) : Good H (goP H s p l) := by
  obtain ⟨k, hk⟩ : ∃ k, lnOk H k l = true := by
    unfold lineOf at el
    split at el
    · rename_i r j h1 h2
      exact ⟨r.length, (ho.lines r (List.mem_of_getElem? h1)).2.2 l (List.mem_of_getElem? el)⟩
    · cases el
  have hnum : (s.numbers.set p (ownAt s p l)).length = H.rows.length := by rw [List.length_set]; exact g.numbers
  have hpl : (s.places.set p (nextP H s p l)).length = H.rows.length := by rw [List.length_set]; exact g.places
  have htu : -1 ≤ (p : Int) ∧ (p : Int) < H.rows.length := by omega
  have base : Good H { s with numbers := s.numbers.set p (ownAt s p l), places := s.places.set p (nextP H s p l), turn := (p : Int) } :=
    { g with places := hpl, numbers := hnum, turn := htu }
  cases l with
  | put b => exact { base with cells := by show (s.cells.set _ _).length = _; rw [List.length_set]; exact g.cells }
  | take b => exact { base with
      owners := by show (s.owners.set _ _).length = _; rw [List.length_set]; exact g.owners
      own := by
        intro o h q e
        rcases List.mem_or_eq_of_mem_set h with h | h
        · exact g.own o h q e
        · rw [h] at e; cases e; exact hp }
  | free b => exact { base with
      owners := by show (s.owners.set _ _).length = _; rw [List.length_set]; exact g.owners
      own := by
        intro o h q e
        rcases List.mem_or_eq_of_mem_set h with h | h
        · exact g.own o h q e
        · rw [h] at e; cases e }
  | send b => exact { base with pipes := by show (s.pipes.set _ _).length = _; rw [List.length_set]; exact g.pipes }
  | hear b => exact { base with pipes := by show (s.pipes.set _ _).length = _; rw [List.length_set]; exact g.pipes }
  | wake b => exact { base with signals := by show (s.signals.set _ _).length = _; rw [List.length_set]; exact g.signals }
  | wait b => exact { base with signals := by show (s.signals.set _ _).length = _; rw [List.length_set]; exact g.signals }
  | note b => exact { base with
      blocks := by show (s.blocks.set _ _).length = _; rw [List.length_set]; exact g.blocks
      few := by show s.log.length + (s.buffer ++ [_]).length ≤ _; simp; omega
      notes := by
        intro e he
        have he : e ∈ s.log ++ (s.buffer ++ [Ev.note p b (numH s p)]) := he
        rw [← List.append_assoc, List.mem_append, List.mem_singleton] at he
        rcases he with he | rfl
        · exact g.notes e he
        · exact ⟨hp, by simpa [lnOk, Ln.thing, hasK] using hk⟩ }
  | mark => exact { base with
      few := by show s.log.length + (s.buffer ++ [_]).length ≤ _; simp; omega
      notes := by
        intro e he
        have he : e ∈ s.log ++ (s.buffer ++ [Ev.mark p]) := he
        rw [← List.append_assoc, List.mem_append, List.mem_singleton] at he
        rcases he with he | rfl
        · exact g.notes e he
        · exact hp }
  | keep => exact { base with
      few := by show (s.log ++ s.buffer).length + 0 ≤ _; rw [List.length_append]; omega
      notes := by
        intro e he
        have he : e ∈ (s.log ++ s.buffer) ++ [] := he
        rw [List.append_nil] at he
        exact g.notes e he }
  | hand q n =>
    have hq : q < s.rights.length := by
      rw [g.rights]
      simp only [lnOk, Bool.and_eq_true, decide_eq_true_eq] at hk
      exact hk.1
    have hn : hasK H n = true := by
      simp only [lnOk, Bool.and_eq_true, decide_eq_true_eq] at hk
      exact hk.2
    have hr : s.rights[q]? = some s.rights[q] := List.getElem?_eq_getElem hq
    have hmem : s.rights[q] ∈ s.rights := List.getElem_mem hq
    exact { base with
      rights := by show (s.rights.set _ _).length = _; rw [List.length_set]; exact g.rights
      nodup := by
        intro r h
        rcases List.mem_or_eq_of_mem_set h with h | h
        · exact g.nodup r h
        · rw [h, hr]; exact insN_nodup (g.nodup _ hmem)
      kinds := by
        intro r h m hm
        rcases List.mem_or_eq_of_mem_set h with h | h
        · exact g.kinds r h m hm
        · rw [h, hr] at hm
          rcases (insN_mem n m _).mp hm with rfl | hm
          · exact hn
          · exact g.kinds _ hmem m hm }
  | _ => exact base
theorem few_go (H : Hs) (s : St) (p : Nat) (l : Ln) : (goP H s p l).log.length + (goP H s p l).buffer.length ≤ s.log.length + s.buffer.length + 1 := by
  cases l <;> simp [goP, after, eff] <;> omega
theorem good_step {H : Hs} (ho : HOk H) {s : St} (g : Good H s) (hm : s.log.length + s.buffer.length < 1000000) {x : Stp} (hx : okSp H s x = true) : Good H (goS H s x) ∧ (goS H s x).log.length + (goS H s x).buffer.length ≤ s.log.length + s.buffer.length + 1 := by
  cases x with
  | go p =>
    obtain ⟨h1, h2⟩ := able_mem.mp (lets_able (of_decide_eq_true hx))
    unfold can at h2
    cases el : lineOf H s p with
    | none => rw [el] at h2; cases h2
    | some l =>
      simp only [goS, el]
      exact ⟨good_go ho g hm h1 el, few_go H s p l⟩
  | cut m =>
    refine ⟨good_begun ho (by rw [mend_len]; exact g.disk), ?_⟩
    show 0 + 0 ≤ _
    omega
end HT

set_option maxHeartbeats 4000000
namespace HT
open PySem RI
open L2 hiding St
/-! ### rights beside the log -/
def noteV (b : Bool) : Ev → Option Nat
  | .note _ c v => if c = b then some v else none
  | .mark _ => none
def valsB (b : Bool) (l : List Ev) : List Nat := l.filterMap (noteV b)
def lastV (b : Bool) (l : List Ev) (d : Nat) : Nat := ((valsB b l).getLast?).getD d
structure Inv76 (H : Hs) (s : St) : Prop where
  notesR : ∀ p b v, Ev.note p b v ∈ s.log ++ s.buffer → ∃ r, s.rights[p]? = some r ∧ (⟨.f, b⟩ : Nm) ∈ r
  blk : ∀ b, dB b < H.kf → s.blocks[dB b]? = some (lastV b (s.log ++ s.buffer) ((s.disk[dB b]?).getD 0))
theorem inv_begun {H : Hs} {blocks : List Nat} (hb : blocks.length = H.kf) : Inv76 H (begun H blocks) where
  notesR := fun p b v h => by cases h
  blk := fun b hlt => by
    show blocks[dB b]? = some (lastV b [] (blocks[dB b]?.getD 0))
    rw [List.getElem?_eq_getElem (by omega)]
    rfl
def RGrow (s t : St) : Prop := ∀ (k : Nat) (r : List Nm), s.rights[k]? = some r → ∃ r' : List Nm, t.rights[k]? = some r' ∧ ∀ m ∈ r, m ∈ r'
theorem RGrow.refl (s t : St) (h : t.rights = s.rights) : RGrow s t := fun k r e => ⟨r, by rw [h]; exact e, fun _ h => h⟩
theorem grow_go {H : Hs} {s : St} (g : Good H s) {p : Nat} {l : Ln} : RGrow s (goP H s p l) := by
  cases l with
  | hand q n =>
    intro k r e
    show ∃ r', (s.rights.set q (insN n (s.rights[q]?.getD [])))[k]? = some r' ∧ _
    rw [List.getElem?_set]
    by_cases hqk : q = k
    · subst hqk
      have hlt : q < s.rights.length := by
        rw [List.getElem?_eq_some_iff] at e
        exact e.1
      rw [if_pos rfl, if_pos hlt, e]
      exact ⟨_, rfl, fun m hm => (insN_mem n m _).mpr (.inr hm)⟩
    · rw [if_neg hqk]
      exact ⟨r, e, fun _ h => h⟩
  | _ => exact RGrow.refl _ _ rfl
theorem dB_inj {a b : Bool} : dB a = dB b ↔ a = b := by cases a <;> cases b <;> decide
theorem lastV_app (b : Bool) (l : List Ev) (e : Ev) (d : Nat) : lastV b (l ++ [e]) d = (noteV b e).getD (lastV b l d) := by
  unfold lastV valsB
  rw [List.filterMap_append]
  cases h : noteV b e with
  | none => simp [h]
  | some v => simp [h]
theorem inv_go {H : Hs} {s : St} (g : Good H s) (i : Inv76 H s) {p : Nat} {l : Ln} (el : lineOf H s p = some l) (hc : can H s p = true) : Inv76 H (goP H s p l) := by
  have hr : rightOk s p l = true := by
    simp only [can, el, Bool.and_eq_true] at hc
    exact hc.1
  have gr : RGrow s (goP H s p l) := grow_go g
  have keepR : ∀ q b v, Ev.note q b v ∈ s.log ++ s.buffer → ∃ r, (goP H s p l).rights[q]? = some r ∧ (⟨.f, b⟩ : Nm) ∈ r := fun q b v h => by
    obtain ⟨r, h1, h2⟩ := i.notesR q b v h
    obtain ⟨r', h3, h4⟩ := gr q r h1
    exact ⟨r', h3, h4 _ h2⟩
  cases l with
  | note b =>
    refine ⟨?_, ?_⟩
    · intro q c v h
      have h : Ev.note q c v ∈ s.log ++ (s.buffer ++ [Ev.note p b (numH s p)]) := h
      rw [← List.append_assoc, List.mem_append, List.mem_singleton] at h
      rcases h with h | h
      · exact keepR q c v h
      · cases h
        simp only [rightOk, Ln.thing] at hr
        cases e : s.rights[p]? with
        | none => rw [e] at hr; cases hr
        | some r => rw [e] at hr; exact ⟨r, e, of_decide_eq_true hr⟩
    · intro c hcf
      have h1 := i.blk c hcf
      show (s.blocks.set (dB b) (numH s p))[dB c]? = some (lastV c (s.log ++ (s.buffer ++ [Ev.note p b (numH s p)])) _)
      rw [← List.append_assoc, lastV_app, List.getElem?_set]
      by_cases hbc : b = c
      · subst hbc
        have hlt : dB b < s.blocks.length := by rw [g.blocks]; exact hcf
        rw [if_pos rfl, if_pos hlt]
        simp [noteV]
      · rw [if_neg (fun e => hbc (dB_inj.mp e)), h1]
        simp [noteV, hbc]
        rfl
  | mark =>
    refine ⟨?_, ?_⟩
    · intro q c v h
      have h : Ev.note q c v ∈ s.log ++ (s.buffer ++ [Ev.mark p]) := h
      rw [← List.append_assoc, List.mem_append, List.mem_singleton] at h
      rcases h with h | h
      · exact keepR q c v h
      · cases h
    · intro c hcf
      have h1 := i.blk c hcf
      show s.blocks[dB c]? = some (lastV c (s.log ++ (s.buffer ++ [Ev.mark p])) _)
      rw [← List.append_assoc, lastV_app, h1]
      rfl
  | keep =>
    refine ⟨?_, ?_⟩
    · intro q c v h
      have h : Ev.note q c v ∈ (s.log ++ s.buffer) ++ [] := h
      rw [List.append_nil] at h
      exact keepR q c v h
    · intro c hcf
      have h1 := i.blk c hcf
      show s.blocks[dB c]? = some (lastV c ((s.log ++ s.buffer) ++ []) _)
      rw [List.append_nil, h1]
      rfl
  | _ => exact ⟨keepR, i.blk⟩
theorem inv_step {H : Hs} {s : St} (g : Good H s) (i : Inv76 H s) {x : Stp} (hx : okSp H s x = true) : Inv76 H (goS H s x) := by
  cases x with
  | go p =>
    obtain ⟨h1, h2⟩ := able_mem.mp (lets_able (of_decide_eq_true hx))
    cases el : lineOf H s p with
    | none => unfold can at h2; rw [el] at h2; cases h2
    | some l =>
      simp only [goS, el]
      exact inv_go g i el h2
  | cut m => exact inv_begun (by rw [mend_len]; exact g.disk)
theorem grow_step {H : Hs} {s : St} (g : Good H s) {p : Nat} (hx : okSp H s (.go p) = true) : RGrow s (goS H s (.go p)) := by
  simp only [goS]
  split
  · exact grow_go g
  · exact RGrow.refl _ _ rfl
end HT

set_option maxHeartbeats 1000000
namespace K76
open PySem RI HT
open L2 hiding St
theorem str_b (b : Bool) (M : Mem) : toStrD [dN (dB b)] M = .ok (.str [if b then 49 else 48]) M := by cases b <;> rfl
theorem in_f (b : Bool) (r : List Nm) (h : (⟨.f, b⟩ : Nm) ∈ r) (M : Mem) : inD true (.str [102, if b then 49 else 48]) (eTup eNm r) M = .ok (.bl false) M := by
  have := in_nms true ⟨.f, b⟩ r M
  simp only [h, decide_true, Bool.not_true, if_true] at this
  exact this
theorem loop1 (F : FT) (H : Hs) (t : St) (j : Nat) (M : Mem) (hn : ∀ p b v, Ev.note p b v ∈ t.log ++ t.buffer → ∃ r, t.rights[p]? = some r ∧ (⟨.f, b⟩ : Nm) ∈ r) : ∀ (l : List Ev) (x0 x1 x3 x4 x5 x6 x7 x9 x10 x11 x13 x14 x15 x16 x17 x18 x19 : Option D), (∀ e ∈ l, e ∈ t.log ++ t.buffer) →
    ∃ y13, forG none fg_41_3 fb_41_3 F (l.map eEv) [x0, x1, some (.obj j), x3, x4, x5, x6, x7, some (eHs H), x9, x10, x11, some (eSt t), x13, x14, x15, x16, x17, x18, x19] M = .ok (.next [x0, x1, some (.obj j), x3, x4, x5, x6, x7, some (eHs H), x9, x10, x11, some (eSt t), y13, x14, x15, x16, x17, x18, x19]) M
  | [], x0, x1, x3, x4, x5, x6, x7, x9, x10, x11, x13, x14, x15, x16, x17, x18, x19, _ => ⟨x13, rfl⟩
  | e :: l, x0, x1, x3, x4, x5, x6, x7, x9, x10, x11, x13, x14, x15, x16, x17, x18, x19, hl => by
    obtain ⟨y13, ih⟩ := loop1 F H t j M hn l x0 x1 x3 x4 x5 x6 x7 x9 x10 x11 (some (eEv e)) x14 x15 x16 x17 x18 x19 (fun e he => hl e (List.mem_cons_of_mem _ he))
    refine ⟨y13, ?_⟩
    simp only [List.map_cons, forG, gd_none, if_true]
    have e1 : (fg_41_3 F (eEv e) [x0, x1, some (.obj j), x3, x4, x5, x6, x7, some (eHs H), x9, x10, x11, some (eSt t), x13, x14, x15, x16, x17, x18, x19] M).bind (fun r1 M1 => fb_41_3 F r1 M1) = .ok (.next [x0, x1, some (.obj j), x3, x4, x5, x6, x7, some (eHs H), x9, x10, x11, some (eSt t), some (eEv e), x14, x15, x16, x17, x18, x19]) M := by
      cases e with
      | mark p => simp [fg_41_3, fb_41_3, Ev.word, eq_words, okW]
      | note p b v =>
        obtain ⟨r, h1, h2⟩ := hn p b v (hl _ List.mem_cons_self)
        have h3 := fun M => in_f b r h2 M
        have h4 : ∀ M, addD (.str [102]) (.str [if b then 49 else 48]) M = .ok (.str [102, if b then 49 else 48]) M := fun M => add_str [102] [if b then 49 else 48] M (by simp)
        simp [fg_41_3, fb_41_3, Ev.word, eq_words, okW, str_b, h4, Ev.by, h1, h3]
    rw [← RI.bind_assoc, e1, Res.bind_ok]
    exact ih
@[simp] theorem isiD_sp (x : Stp) (M : Mem) : isiD .tuple (eSp x) M = .ok (.bl (match x with | .go _ => false | .cut _ => true)) M := by cases x <;> rfl
@[simp] theorem ix_rights (l : List (List Nm)) (n : Nat) (M : Mem) : ixD (eRights l) (.int (n : Int)) M = okO M (eTup eNm) l[n]? := ix_eTup (eTup eNm) l n M
@[simp] theorem eq_nms (n : Bool) (a b : List Nm) (M : Mem) : eqD n (eTup eNm a) (eTup eNm b) M = .ok (.bl (if n then !decide (a = b) else decide (a = b))) M := enc_nm.tup.eq (by decide) n a b M
theorem loop2 (F : FT) (H : Hs) (ho : HOk H) (s t : St) (x : Stp) (j : Nat) (M : Mem) (hj : M[j]? = some (.dks false (hDks H))) (gs : Good H s) (gt : Good H t) (hx : match x with | .go _ => RGrow s t | .cut _ => t.rights = H.given) : ∀ (l : List Nat) (x0 x1 x3 x4 x5 x6 x7 x10 x13 x14 x15 x16 x17 x18 x19 : Option D), (∀ k ∈ l, k < many H) →
    ∃ y6 y16, forG none fg_41_5 fb_41_5 F (l.map dN) [x0, x1, some (.obj j), x3, x4, x5, x6, x7, some (eHs H), some (eSt s), x10, some (eSp x), some (eSt t), x13, x14, x15, x16, x17, x18, x19] M = .ok (.next [x0, x1, some (.obj j), x3, x4, x5, y6, x7, some (eHs H), some (eSt s), x10, some (eSp x), some (eSt t), x13, x14, x15, y16, x17, x18, x19]) M
  | [], x0, x1, x3, x4, x5, x6, x7, x10, x13, x14, x15, x16, x17, x18, x19, _ => ⟨x6, x16, rfl⟩
  | k :: l, x0, x1, x3, x4, x5, x6, x7, x10, x13, x14, x15, x16, x17, x18, x19, hl => by
    have hk := hl k List.mem_cons_self
    obtain ⟨r, hr⟩ := some_at (l := s.rights) (i := k) (by rw [gs.rights]; exact hk)
    obtain ⟨r', hr'⟩ := some_at (l := t.rights) (i := k) (by rw [gt.rights]; exact hk)
    obtain ⟨g, hg⟩ := some_at (l := H.given) (i := k) (by rw [ho.given]; exact hk)
    obtain ⟨y6, y16, ih⟩ := loop2 F H ho s t x j M hj gs gt hx l x0 x1 x3 x4 x5 (some (dN k)) x7 x10 x13 x14 x15 (some (.lst ((r.filter fun m => !decide (m ∈ r')).map eNm))) x17 x18 x19 (fun k hk => hl k (List.mem_cons_of_mem _ hk))
    refine ⟨y6, y16, ?_⟩
    have hlc := fun (x0 x1 x3 x4 x5 x7 x10 x13 x14 x15 x16 x17 x19 : Option D) => lc_ok (gd := none) (g := lg_41_4) (mt := lt_41_4) (me := le_41_4) (F := F) (r := [x0, x1, some (.obj j), x3, x4, x5, some (dN k), x7, some (eHs H), some (eSt s), x10, some (eSp x), some (eSt t), x13, x14, x15, x16, x17, none, x19]) (enc := eNm) (M := M) rfl (fun m => !decide (m ∈ r')) eNm r fun m _ => by
      exact ⟨[x0, x1, some (.obj j), x3, x4, x5, some (dN k), x7, some (eHs H), some (eSt s), x10, some (eSp x), some (eSt t), x13, x14, x15, x16, x17, some (eNm m), x19], by simp [lg_41_4], by simp [lt_41_4, hr'], fun _ => by simp [le_41_4]⟩
    have hrl : r.length ≤ 16777216 := by have := nodup_le (gs.nodup r (List.mem_of_getElem? hr)); omega
    have e1 : (fg_41_5 F (dN k) [x0, x1, some (.obj j), x3, x4, x5, x6, x7, some (eHs H), some (eSt s), x10, some (eSp x), some (eSt t), x13, x14, x15, x16, x17, x18, x19] M).bind (fun r1 M1 => fb_41_5 F r1 M1) = .ok (.next [x0, x1, some (.obj j), x3, x4, x5, some (dN k), x7, some (eHs H), some (eSt s), x10, some (eSp x), some (eSt t), x13, x14, x15, some (.lst ((r.filter fun m => !decide (m ∈ r')).map eNm)), x17, x18, x19]) M := by
      cases x with
      | go p =>
        have hx : RGrow s t := hx
        obtain ⟨r2, h1, h2⟩ := hx k r hr
        rw [hr'] at h1
        cases h1
        have hf : (r.filter fun m => !decide (m ∈ r')) = [] := by
          rw [List.filter_eq_nil_iff]
          intro m hm
          simp [h2 m hm]
        rw [hf] at hlc
        have he := eq_lnm true [] M
        rw [hf]
        simp [fg_41_5, fb_41_5, hd_given hj, hr, hr', hrl, wipeE, hlc]

      | cut m =>
        have hx : t.rights = H.given := hx
        rw [hx, hg] at hr'
        cases hr'
        simp [fg_41_5, fb_41_5, hd_given hj, hx, hr, hg, hrl, wipeE, hlc]
    simp only [List.map_cons, forG, gd_none, if_true]
    rw [← RI.bind_assoc, e1, Res.bind_ok]
    exact ih
end K76

set_option maxHeartbeats 1000000
namespace K76
open PySem RI HT
open L2 hiding St
theorem at_last {A : Type} (l : List A) (h : l ≠ []) : atI l (-1) = l.getLast? := by
  have h1 : 0 < l.length := List.length_pos_iff.mpr h
  have h2 : ixN l.length (-1) = some (l.length - 1) := by
    unfold ixN
    simp
    omega
  unfold atI
  rw [h2, List.getLast?_eq_getElem?]
  rfl
theorem notes_map (b : Bool) : ∀ l : List Ev, ((l.filter fun e => (noteV b e).isSome).map fun e => dN ((noteV b e).getD 0)) = (valsB b l).map dN
  | [] => rfl
  | e :: l => by
    have ih := notes_map b l
    unfold valsB at ih ⊢
    cases h : noteV b e with
    | none =>
      rw [List.filter_cons_of_neg (by simp [h]), List.filterMap_cons_none h]
      exact ih
    | some v =>
      rw [List.filter_cons_of_pos (by simp [h]), List.filterMap_cons_some h, List.map_cons, List.map_cons, ih, h]
      rfl
theorem add_evs (a b : List Ev) (h : a.length + b.length ≤ 16777216) (M : Mem) : addD (eTup eEv a) (eTup eEv b) M = .ok (eTup eEv (a ++ b)) M := by
  unfold eTup
  rw [add_tup (by simpa using h), List.map_append]
theorem loop3 (F : FT) (H : Hs) (ho : HOk H) (t : St) (j : Nat) (M : Mem) (gt : Good H t) (it : Inv76 H t) : ∀ (l : List Nat) (x0 x1 x3 x4 x5 x6 x7 x9 x10 x11 x13 x14 x15 x16 x17 x18 x19 : Option D), (∀ f ∈ l, f < H.kf) →
    ∃ y14 y17, forG none fg_41_7 fb_41_7 F (l.map dN) [x0, x1, some (.obj j), x3, x4, x5, x6, x7, some (eHs H), x9, x10, x11, some (eSt t), x13, x14, x15, x16, x17, x18, x19] M = .ok (.next [x0, x1, some (.obj j), x3, x4, x5, x6, x7, some (eHs H), x9, x10, x11, some (eSt t), x13, y14, x15, x16, y17, x18, x19]) M
  | [], x0, x1, x3, x4, x5, x6, x7, x9, x10, x11, x13, x14, x15, x16, x17, x18, x19, _ => ⟨x14, x17, rfl⟩
  | f :: l, x0, x1, x3, x4, x5, x6, x7, x9, x10, x11, x13, x14, x15, x16, x17, x18, x19, hl => by
    have hf := hl f List.mem_cons_self
    have hf2 : f < 2 := by have := ho.kf; omega
    obtain ⟨b, hb⟩ : ∃ b, f = dB b := ⟨decide (f = 1), (dB_dec hf2).symm⟩
    subst hb
    obtain ⟨d, hd⟩ := some_at (l := t.disk) (i := dB b) (by rw [gt.disk]; exact hf)
    have hbl := it.blk b hf
    rw [hd] at hbl
    have hfew := gt.few
    have hz : t.log.length + t.buffer.length ≤ 16777216 := by omega
    have hadd := fun M => add_evs t.log t.buffer hz M
    have hzl : (t.log ++ t.buffer).length ≤ 16777216 := by rw [List.length_append]; exact hz
    generalize t.log ++ t.buffer = L at hadd hbl hzl
    obtain ⟨y14, y17, ih⟩ := loop3 F H ho t j M gt it l x0 x1 x3 x4 x5 x6 x7 x9 x10 x11 x13 (some (dN (dB b))) x15 x16 (some (.lst ((valsB b L).map dN))) x18 x19 (fun k hk => hl k (List.mem_cons_of_mem _ hk))
    refine ⟨y14, y17, ?_⟩
    have hlc := fun (x0 x1 x3 x4 x5 x6 x7 x9 x10 x11 x15 x16 x17 x18 x19 : Option D) => lc_ok (gd := none) (g := lg_41_6) (mt := lt_41_6) (me := le_41_6) (F := F) (r := [x0, x1, some (.obj j), x3, x4, x5, x6, x7, some (eHs H), x9, x10, x11, some (eSt t), none, some (dN (dB b)), x15, x16, x17, x18, x19]) (enc := eEv) (M := M) rfl (fun e => (noteV b e).isSome) (fun e => dN ((noteV b e).getD 0)) L fun e _ => by
      refine ⟨[x0, x1, some (.obj j), x3, x4, x5, x6, x7, some (eHs H), x9, x10, x11, some (eSt t), some (eEv e), some (dN (dB b)), x15, x16, x17, x18, x19], by simp [lg_41_6], ?_, ?_⟩
      · cases e with
        | mark p => simp [lt_41_6, Ev.word, eq_words, okW, noteV]
        | note p c v =>
          by_cases hc : c = b
          · simp [lt_41_6, Ev.word, eq_words, okW, noteV, hc]
          · have hc' : ¬ ((dB c : Nat) : Int) = ((dB b : Nat) : Int) := fun e => hc (dB_inj.mp (by omega))
            simp [lt_41_6, Ev.word, eq_words, okW, noteV, hc, hc']
      · intro hs
        cases e with
        | mark p => simp [noteV] at hs
        | note p c v =>
          by_cases hc : c = b
          · simp [le_41_6, noteV, hc]
          · simp [noteV, hc] at hs
    rw [notes_map] at hlc
    have e1 : (fg_41_7 F (dN (dB b)) [x0, x1, some (.obj j), x3, x4, x5, x6, x7, some (eHs H), x9, x10, x11, some (eSt t), x13, x14, x15, x16, x17, x18, x19] M).bind (fun r1 M1 => fb_41_7 F r1 M1) = .ok (.next [x0, x1, some (.obj j), x3, x4, x5, x6, x7, some (eHs H), x9, x10, x11, some (eSt t), x13, some (dN (dB b)), x15, x16, some (.lst ((valsB b L).map dN)), x18, x19]) M := by
      cases hv : valsB b L with
      | nil =>
        rw [hv] at hlc
        have hlast : lastV b L ((some d).getD 0) = d := by unfold lastV; rw [hv]; rfl
        rw [hlast] at hbl
        simp [fg_41_7, fb_41_7, hadd, wipeE, hlc, hbl, hd, hzl]
      | cons v vs =>
        rw [hv] at hlc
        obtain ⟨w, hw⟩ : ∃ w, (v :: vs).getLast? = some w := ⟨_, List.getLast?_eq_some_getLast (by simp)⟩
        have hlast : lastV b L ((some d).getD 0) = w := by unfold lastV; rw [hv, hw]; rfl
        rw [hlast] at hbl
        have hix : ∀ M, ixD (.lst ((v :: vs).map dN)) (.int (-1)) M = .ok (dN w) M := fun M => by
          rw [ix_seq (l := (v :: vs).map dN) rfl, at_last _ (by simp), List.getLast?_map, hw]
          rfl
        simp only [List.map_cons] at hix hlc
        simp [fg_41_7, fb_41_7, hadd, wipeE, hlc, hbl, hd, hix, hzl]
    simp only [List.map_cons, forG, gd_none, if_true]
    rw [← RI.bind_assoc, e1, Res.bind_ok]
    exact ih
end K76

set_option maxHeartbeats 1000000
namespace K76
open PySem RI HT
open L2 hiding St
theorem hp_get {M X : Mem} {i : Nat} {o : MO} (h : HP M X) (hx : X[i]? = some o) : M[i + 1]? = some o := by
  obtain ⟨c, a, b, s, _, _, _, rfl⟩ := h
  exact hx
def Stp.isGo : Stp → Bool
  | .go _ => true
  | .cut _ => false
theorem steps_ok {H : Hs} {s : St} {x : Stp} (h : x ∈ stepsH H s) : okSp H s x = true := by
  unfold stepsH at h
  rcases List.mem_append.mp h with h | h
  · obtain ⟨p, hp, rfl⟩ := List.mem_map.mp h
    exact decide_eq_true hp
  · obtain ⟨m, hm, rfl⟩ := List.mem_map.mp h
    exact decide_eq_true (by have := List.mem_range.mp hm; omega)
theorem steps_len {H : Hs} (ho : HOk H) {s : St} (g : Good H s) : 1 ≤ (stepsH H s).length ∧ (stepsH H s).length ≤ 16000000 := by
  have h1 : (lets H s).length ≤ many H := by
    have h2 : (able H s).length ≤ many H := by
      unfold able
      have := List.length_filter_le (can H s) (List.range (many H))
      rw [List.length_range] at this
      exact this
    unfold lets
    cases e : able H s with
    | nil => simp
    | cons a l =>
      rw [e] at h2
      simp only
      split
      · exact h2
      · have := ho.many
        unfold many
        simp only [List.length_cons, List.length_nil]
        omega
  have hm := ho.many
  have hf := g.few
  unfold many at h1
  unfold stepsH
  simp only [List.length_append, List.length_map, List.length_range]
  omega
theorem eq_wait (l : List (Option Why)) (M : Mem) : eqD true (.lst (l.map (dO eWhy))) (.lst (l.map (dO eWhy))) M = .ok (.bl false) M :=
  eq_same (d := .lst (l.map (dO eWhy))) (show D.noObj (.lst (l.map (dO eWhy))) = true from nice_why.noL l) (nice_why.shL l) true M
theorem law_turn (n : Nat) (H : Hs) (ho : HOk H) (s : St) (gs : Good H s) (is : Inv76 H s) (m : Nat) (hm : s.log.length + s.buffer.length ≤ m) (hm2 : m < 1000) (j' j : Nat) (hj' : j = j' + 1) (k : Nat) (M X : Mem) (h : HP M X) (hX : X[j']? = some (.dks false (hDks H))) (x0 x3 x4 x5 x6 x7 x10 x11 x12 x13 x14 x15 x16 x17 x18 x19 : Option D) :
    ∃ (s' : St) (M' : Mem) (y3 y6 y10 y11 y12 y13 y14 y16 y17 : Option D), Good H s' ∧ Inv76 H s' ∧ s'.log.length + s'.buffer.length ≤ m + 1 ∧ HP M' X ∧ (fg_41_8 (callF tb (n + 6)) (dN k) [x0, some (.obj 0), some (.obj j), x3, x4, x5, x6, x7, some (eHs H), some (eSt s), x10, x11, x12, x13, x14, x15, x16, x17, x18, x19] M).bind (fun r1 M1 => fb_41_8 (callF tb (n + 6)) r1 M1) = .ok (.next [x0, some (.obj 0), some (.obj j), y3, x4, x5, y6, x7, some (eHs H), some (eSt s'), y10, y11, y12, y13, y14, x15, y16, y17, x18, x19]) M' := by
  have hso := fun M => steps_of (n + 1) H ho s gs M
  have hS1 : (mAsg (mCall 24 (mCons (mVar 8) (mCons (mVar 9) mNil))) (gN 10)) (callF tb (n + 6)) [x0, some (.obj 0), some (.obj j), some (dN k), x4, x5, x6, x7, some (eHs H), some (eSt s), x10, x11, x12, x13, x14, x15, x16, x17, x18, x19] M = .ok (.next [x0, some (.obj 0), some (.obj j), some (dN k), x4, x5, x6, x7, some (eHs H), some (eSt s), some (.lst ((stepsH H s).map eSp)), x11, x12, x13, x14, x15, x16, x17, x18, x19]) M := by
    simp [hso]
  obtain ⟨hn1, hn2⟩ := steps_len ho gs
  obtain ⟨r1, M1, hr1, hM1, hp1⟩ := pick_ok (n + 5) 6 (by decide) (by decide) M X h
  have hp1' : callF tb (n + 6) 35 [.obj 0, .int 6] M = .ok (dN r1) M1 := hp1
  obtain ⟨L, hL1, hL2, hS2⟩ : ∃ L : List Stp, (1 ≤ L.length ∧ L.length ≤ 16000000) ∧ (∀ x ∈ L, x ∈ stepsH H s) ∧ ∃ y11, (mIfS (mAnd (mTB (mB gtD (mCall 35 (mCons (mVar 1) (mCons (mC (.int 6)) mNil))) (mC (.int 0)))) (mNot (mTru (mIsi .tuple (mB ixD (mVar 10) (mC (.int 0)))))))
 (mAsg (mLc (mSeqI (mVar 10)) lg_41_2 lt_41_2 le_41_2 [11]) (gN 10))
 mSkip) (callF tb (n + 6)) [x0, some (.obj 0), some (.obj j), some (dN k), x4, x5, x6, x7, some (eHs H), some (eSt s), some (.lst ((stepsH H s).map eSp)), x11, x12, x13, x14, x15, x16, x17, x18, x19] M = .ok (.next [x0, some (.obj 0), some (.obj j), some (dN k), x4, x5, x6, x7, some (eHs H), some (eSt s), some (.lst (L.map eSp)), y11, x12, x13, x14, x15, x16, x17, x18, x19]) M1 := by
    obtain ⟨x0, l0, e0⟩ : ∃ x0 l0, stepsH H s = x0 :: l0 := by
      cases e : stepsH H s with
      | nil => rw [e] at hn1; simp at hn1
      | cons a l => exact ⟨a, l, rfl⟩
    have hi0 : ∀ M, ixD (.lst ((stepsH H s).map eSp)) (.int 0) M = .ok (eSp x0) M := fun M => by
      have := ixL eSp (stepsH H s) 0 M
      rw [e0] at this ⊢
      exact this
    by_cases hz : r1 = 0
    · subst hz
      refine ⟨stepsH H s, ⟨hn1, hn2⟩, fun x hx => hx, x11, ?_⟩
      simp [hp1']
    · have hz1 : 0 < r1 := by omega
      cases x0 with
      | cut c =>
        refine ⟨stepsH H s, ⟨hn1, hn2⟩, fun x hx => hx, x11, ?_⟩
        simp [hp1', hz1, hi0]
      | go p =>
        have hlc := fun (x0 x3 x4 x5 x6 x7 x10 x12 x13 x14 x15 x16 x17 x18 x19 : Option D) => lc_ok (gd := none) (g := lg_41_2) (mt := lt_41_2) (me := le_41_2) (F := (callF tb (n + 6))) (r := [x0, some (.obj 0), some (.obj j), x3, x4, x5, x6, x7, some (eHs H), some (eSt s), x10, none, x12, x13, x14, x15, x16, x17, x18, x19]) (enc := eSp) (M := M1) rfl Stp.isGo eSp (stepsH H s) fun x _ => by
          exact ⟨[x0, some (.obj 0), some (.obj j), x3, x4, x5, x6, x7, some (eHs H), some (eSt s), x10, some (eSp x), x12, x13, x14, x15, x16, x17, x18, x19], by simp [lg_41_2], by cases x <;> simp [lt_41_2, Stp.isGo], fun _ => by simp [le_41_2]⟩
        refine ⟨(stepsH H s).filter Stp.isGo, ⟨?_, Nat.le_trans (List.length_filter_le _ _) hn2⟩, fun x hx => (List.mem_filter.mp hx).1, x11, ?_⟩
        · rw [e0, List.filter_cons_of_pos rfl]
          simp
        · have hz2 : (stepsH H s).length ≤ 16777216 := by omega
          simp [hp1', hz1, hi0, wipeE, hlc, hz2]
  obtain ⟨y11, hS2⟩ := hS2
  obtain ⟨r2, M2, hr2, hM2, hp2⟩ := pick_ok (n + 5) L.length hL1.1 (by omega) M1 X hM1
  obtain ⟨x, hx⟩ := some_at hr2
  have hxm : okSp H s x = true := steps_ok (hL2 x (List.mem_of_getElem? hx))
  have hlen : ∀ M, lenX [.lst (L.map eSp)] M = .ok (dN L.length) M := fun M => by rw [len_of (l := L.map eSp) rfl, List.length_map]
  have hS3 : (mAsg (mB ixD (mVar 10) (mCall 35 (mCons (mVar 1) (mCons (mBl lenX (mCons (mVar 10) mNil)) mNil)))) (gN 11)) (callF tb (n + 6)) [x0, some (.obj 0), some (.obj j), some (dN k), x4, x5, x6, x7, some (eHs H), some (eSt s), some (.lst (L.map eSp)), y11, x12, x13, x14, x15, x16, x17, x18, x19] M1 = .ok (.next [x0, some (.obj 0), some (.obj j), some (dN k), x4, x5, x6, x7, some (eHs H), some (eSt s), some (.lst (L.map eSp)), some (eSp x), x12, x13, x14, x15, x16, x17, x18, x19]) M2 := by
    simp [hlen, hp2, hx]
  have hst := fun M => stepped n H ho s gs x hxm M
  have hS4 : (mAsg (mCall 31 (mCons (mVar 8) (mCons (mVar 9) (mCons (mVar 11) mNil)))) (gN 12)) (callF tb (n + 6)) [x0, some (.obj 0), some (.obj j), some (dN k), x4, x5, x6, x7, some (eHs H), some (eSt s), some (.lst (L.map eSp)), some (eSp x), x12, x13, x14, x15, x16, x17, x18, x19] M2 = .ok (.next [x0, some (.obj 0), some (.obj j), some (dN k), x4, x5, x6, x7, some (eHs H), some (eSt s), some (.lst (L.map eSp)), some (eSp x), some (eSt (goS H s x)), x13, x14, x15, x16, x17, x18, x19]) M2 := by
    simp [hst]
  obtain ⟨gt, hfew⟩ := good_step ho gs (by omega) hxm
  have it := inv_step gs is hxm
  have hj : M2[j]? = some (.dks false (hDks H)) := by rw [hj']; exact hp_get hM2 hX
  have hfl : (goS H s x).log.length + (goS H s x).buffer.length ≤ 16777216 := by have := gt.few; omega
  have hadd := fun M => add_evs (goS H s x).log (goS H s x).buffer hfl M
  obtain ⟨y13, hF1'⟩ := loop1 (callF tb (n + 6)) H (goS H s x) j M2 it.notesR ((goS H s x).log ++ (goS H s x).buffer) x0 (some (.obj 0)) (some (dN k)) x4 x5 x6 x7 (some (eSt s)) (some (.lst (L.map eSp))) (some (eSp x)) x13 x14 x15 x16 x17 x18 x19 (fun _ h => h)
  have hF1 : (mFor (mSeqI (mB addD (mB ixD (mVar 12) (mC (.int 9))) (mB ixD (mVar 12) (mC (.int 8))))) fg_41_3 fb_41_3) (callF tb (n + 6)) [x0, some (.obj 0), some (.obj j), some (dN k), x4, x5, x6, x7, some (eHs H), some (eSt s), some (.lst (L.map eSp)), some (eSp x), some (eSt (goS H s x)), x13, x14, x15, x16, x17, x18, x19] M2 = .ok (.next [x0, some (.obj 0), some (.obj j), some (dN k), x4, x5, x6, x7, some (eHs H), some (eSt s), some (.lst (L.map eSp)), some (eSp x), some (eSt (goS H s x)), y13, x14, x15, x16, x17, x18, x19]) M2 := by
    simp [hadd, -fold_app]
    simpa using hF1'
  have hm1000 : many H ≤ 1000 := by have := ho.many; unfold many; omega
  have hkf : H.kf ≤ 1000 := by have := ho.kf; omega
  obtain ⟨y6, y16, hF2'⟩ := loop2 (callF tb (n + 6)) H ho s (goS H s x) x j M2 hj gs gt (by cases x with | go p => exact grow_step gs hxm | cut c => rfl) (List.range (many H)) x0 (some (.obj 0)) (some (dN k)) x4 x5 x6 x7 (some (.lst (L.map eSp))) y13 x14 x15 x16 x17 x18 x19 (fun k hk => List.mem_range.mp hk)
  have hF2 : (mFor (mRng1 (mCons (mBl lenX (mCons (mB ixD (mVar 2) (mC (.str [114, 111, 119, 115]))) mNil)) mNil)) fg_41_5 fb_41_5) (callF tb (n + 6)) [x0, some (.obj 0), some (.obj j), some (dN k), x4, x5, x6, x7, some (eHs H), some (eSt s), some (.lst (L.map eSp)), some (eSp x), some (eSt (goS H s x)), y13, x14, x15, x16, x17, x18, x19] M2 = .ok (.next [x0, some (.obj 0), some (.obj j), some (dN k), x4, x5, y6, x7, some (eHs H), some (eSt s), some (.lst (L.map eSp)), some (eSp x), some (eSt (goS H s x)), y13, x14, x15, y16, x17, x18, x19]) M2 := by
    simp [hd_rows hj, lenRows, hm1000, rng0, hF2']
  obtain ⟨y14, y17, hF3'⟩ := loop3 (callF tb (n + 6)) H ho (goS H s x) j M2 gt it (List.range H.kf) x0 (some (.obj 0)) (some (dN k)) x4 x5 y6 x7 (some (eSt s)) (some (.lst (L.map eSp))) (some (eSp x)) y13 x14 x15 y16 x17 x18 x19 (fun k hk => List.mem_range.mp hk)
  have hF3 : (mFor (mRng1 (mCons (mB ixD (mB ixD (mVar 2) (mC (.str [107, 105, 110, 100, 115]))) (mC (.int 4))) mNil)) fg_41_7 fb_41_7) (callF tb (n + 6)) [x0, some (.obj 0), some (.obj j), some (dN k), x4, x5, y6, x7, some (eHs H), some (eSt s), some (.lst (L.map eSp)), some (eSp x), some (eSt (goS H s x)), y13, x14, x15, y16, x17, x18, x19] M2 = .ok (.next [x0, some (.obj 0), some (.obj j), some (dN k), x4, x5, y6, x7, some (eHs H), some (eSt s), some (.lst (L.map eSp)), some (eSp x), some (eSt (goS H s x)), y13, y14, x15, y16, y17, x18, x19]) M2 := by
    simp [hd_kinds hj, hkf, rng0, hF3']
  have hw := fun M => waiting (n + 2) H ho (goS H s x) gt.toWf M
  have hS5 : (mIfS (mTB (mB (eqD true) (mCall 33 (mCons (mVar 8) (mCons (mVar 12) mNil))) (mCall 33 (mCons (mVar 8) (mCons (mCall 31 (mCons (mVar 8) (mCons (mVar 9) (mCons (mVar 11) mNil)))) mNil)))))
 (mRet (mC (.bl false)))
 mSkip) (callF tb (n + 6)) [x0, some (.obj 0), some (.obj j), some (dN k), x4, x5, y6, x7, some (eHs H), some (eSt s), some (.lst (L.map eSp)), some (eSp x), some (eSt (goS H s x)), y13, y14, x15, y16, y17, x18, x19] M2 = .ok (.next [x0, some (.obj 0), some (.obj j), some (dN k), x4, x5, y6, x7, some (eHs H), some (eSt s), some (.lst (L.map eSp)), some (eSp x), some (eSt (goS H s x)), y13, y14, x15, y16, y17, x18, x19]) M2 := by
    simp [hw, hst, eq_wait]
  have hfg : fg_41_8 (callF tb (n + 6)) (dN k) [x0, some (.obj 0), some (.obj j), x3, x4, x5, x6, x7, some (eHs H), some (eSt s), x10, x11, x12, x13, x14, x15, x16, x17, x18, x19] M = .ok [x0, some (.obj 0), some (.obj j), some (dN k), x4, x5, x6, x7, some (eHs H), some (eSt s), x10, x11, x12, x13, x14, x15, x16, x17, x18, x19] M := rfl
  refine ⟨goS H s x, M2, some (dN k), y6, some (.lst (L.map eSp)), some (eSp x), some (eSt (goS H s x)), y13, y14, y16, y17, gt, it, by omega, hM2, ?_⟩
  rw [hfg, Res.bind_ok]
  simp only [fb_41_8, ap_seq, hS1, hS2, hS3, hS4, hF1, hF2, hF3, hS5, Res.bind_ok]
  simp
end K76

set_option maxHeartbeats 1000000
namespace K76
open PySem RI HT
open L2 hiding St
def spL : List Ln := [.note false, .mark, .keep, .add 1, .hand 0 ⟨.f, false⟩, .hand 1 ⟨.f, false⟩, .read false]
def spG : List (List (List Nm)) := [[[⟨.f, false⟩], []], [[], [⟨.f, false⟩]], [[⟨.f, false⟩], [⟨.f, false⟩]], [[], []]]
theorem sp_lc (n : Nat) (X : Mem) (x0 x2 x3 x4 x6 x7 x8 x9 x10 x11 x12 x13 x14 x15 x16 x17 x18 x19 : Option D) : ∀ (l : List Nat) (M : Mem), HP M X → ∃ (ls : List Ln) (M' : Mem), ls.length = l.length ∧ (∀ y ∈ ls, y ∈ spL) ∧ HP M' X ∧
    lcG none lg_41_0 lt_41_0 le_41_0 (callF tb (n + 1)) [x0, some (.obj 0), x2, x3, x4, some (.lst (spL.map eLn)), x6, x7, x8, x9, x10, x11, x12, x13, x14, x15, x16, x17, x18, x19] (l.map dN) M = .ok (ls.map eLn) M'
  | [], M, h => ⟨[], M, rfl, (by simp), h, rfl⟩
  | k :: l, M, h => by
    obtain ⟨r, M1, hr, hM1, hp⟩ := pick_ok n 7 (by decide) (by decide) M X h
    have hp' : callF tb (n + 1) 35 [.obj 0, .int 7] M = .ok (dN r) M1 := hp
    obtain ⟨y, hy⟩ := some_at (l := spL) (i := r) hr
    have hix : ∀ M, ixD (.lst (spL.map eLn)) (.int (r : Int)) M = .ok (eLn y) M := fun M => by
      have := ixL eLn spL r M
      rw [hy] at this
      exact this
    obtain ⟨ls, M2, q1, q2, q3, q4⟩ := sp_lc n X x0 x2 x3 x4 x6 x7 x8 x9 x10 x11 x12 x13 x14 x15 x16 x17 x18 x19 l M1 hM1
    refine ⟨y :: ls, M2, by simp [q1], ?_, q3, ?_⟩
    · intro z hz
      rcases List.mem_cons.mp hz with rfl | hz
      · exact List.mem_of_getElem? hy
      · exact q2 z hz
    · simp [lcG, lg_41_0, lt_41_0, le_41_0, hp', hix]
      simp [lg_41_0, lt_41_0, le_41_0] at q4
      rw [q4]
      rfl
theorem sp_loop (X : Mem) (x0 : Option D) : ∀ (l : List Nat) (rows : List (List Ln)) (x6 : Option D) (M : Mem), rows.length + l.length ≤ 10 → (∀ r ∈ rows, 1 ≤ r.length ∧ r.length ≤ 6 ∧ ∀ y ∈ r, y ∈ spL) → HP M X →
    ∃ (rows' : List (List Ln)) (y6 : Option D) (M' : Mem), rows'.length = rows.length + l.length ∧ (∀ r ∈ rows', 1 ≤ r.length ∧ r.length ≤ 6 ∧ ∀ y ∈ r, y ∈ spL) ∧ HP M' X ∧ forG none fg_41_1 fb_41_1 (callF tb 13) (l.map dN) [x0, some (.obj 0), some (.obj 1), none, none, some (.lst (spL.map eLn)), x6, none, none, none, none, none, none, none, none, some (eRows rows), none, none, none, none] M = .ok (.next [x0, some (.obj 0), some (.obj 1), none, none, some (.lst (spL.map eLn)), y6, none, none, none, none, none, none, none, none, some (eRows rows'), none, none, none, none]) M'
  | [], rows, x6, M, _, hr, h => ⟨rows, x6, M, by simp, hr, h, rfl⟩
  | k :: l, rows, x6, M, hz, hr, h => by
    simp only [List.length_cons] at hz
    obtain ⟨r, M1, hr1, hM1, hp⟩ := pick_ok 12 6 (by decide) (by decide) M X h
    have hp' : callF tb 13 35 [.obj 0, .int 6] M = .ok (dN r) M1 := hp
    obtain ⟨q, hq⟩ : ∃ q, q = 1 + r := ⟨_, rfl⟩
    have hqi : D.int (1 + (r : Int)) = dN q := by rw [hq]; rfl
    obtain ⟨ls, M2, p1, p2, p3, p4⟩ := sp_lc 12 X x0 (some (.obj 1)) none none (some (dN k)) none none none none none none none none (some (eRows rows)) none none none none (List.range q) M1 hM1
    rw [List.length_range] at p1
    have e1 : ∀ M, addD (eRows rows) (.tup [eTup eLn ls]) M = .ok (eRows (rows ++ [ls])) M := by
      intro M
      unfold eRows eTup
      rw [add_tup (by simp; show _ ≤ 16777216; omega), List.map_append]
      rfl
    have hq1 : q ≤ 1000 := by omega
    have hq2 : q ≤ 16777216 := by omega
    obtain ⟨rows', y6, M', z1, z2, z3, z4⟩ := sp_loop X x0 l (rows ++ [ls]) (some (dN k)) M2 (by simp; omega) (by
      intro r' hr'
      rcases List.mem_append.mp hr' with hr' | hr'
      · exact hr r' hr'
      · rw [List.mem_singleton] at hr'
        subst hr'
        exact ⟨by omega, by omega, p2⟩) p3
    refine ⟨rows', y6, M', by simp at z1 ⊢; omega, z2, z3, ?_⟩
    have e2 : (fg_41_1 (callF tb 13) (dN k) [x0, some (.obj 0), some (.obj 1), none, none, some (.lst (spL.map eLn)), x6, none, none, none, none, none, none, none, none, some (eRows rows), none, none, none, none] M).bind (fun r1 M1 => fb_41_1 (callF tb 13) r1 M1) = .ok (.next [x0, some (.obj 0), some (.obj 1), none, none, some (.lst (spL.map eLn)), some (dN k), none, none, none, none, none, none, none, none, some (eRows (rows ++ [ls])), none, none, none, none]) M2 := by
      simp [fg_41_1, fb_41_1, hp', hqi, hq1, hq2, rng0, wipeE, p4, e1]
    simp only [List.map_cons, forG, gd_none, if_true]
    rw [← RI.bind_assoc, e2, Res.bind_ok]
    exact z4
theorem hp_snoc {M X : Mem} (h : HP M X) (o : MO) : HP (M ++ [o]) (X ++ [o]) := by
  obtain ⟨c, i, b, s, h1, h2, h3, rfl⟩ := h
  exact ⟨c, i, b, s, h1, h2, h3, rfl⟩
theorem sp_ok {rows : List (List Ln)} (h2 : rows.length = 2) (hr : ∀ r ∈ rows, 1 ≤ r.length ∧ r.length ≤ 6 ∧ ∀ y ∈ r, y ∈ spL) {given : List (List Nm)} (hg : given ∈ spG) (o : Od) (a : Bool) : HOk { rows := rows, kc := 0, kl := 0, kp := [], ks := 0, kf := 1, given := given, ord := o, all := a } := by
  refine ⟨by show 1 ≤ rows.length ∧ rows.length ≤ 3; omega, ?_, by show 0 ≤ 2; omega, by show 0 ≤ 2; omega, ⟨by show 0 ≤ 2; omega, fun z hz => by cases hz⟩, by show 0 ≤ 2; omega, by show 1 ≤ 2; omega, ?_, ?_⟩
  · intro r hr'
    obtain ⟨o1, o2, o3⟩ := hr r hr'
    refine ⟨o1, by omega, fun l hl => ?_⟩
    have := o3 l hl
    simp only [spL, List.mem_cons, List.not_mem_nil, or_false] at this
    rcases this with rfl | rfl | rfl | rfl | rfl | rfl | rfl
    · rfl
    · rfl
    · rfl
    · rfl
    · simp [lnOk, hasK, dB, h2]
    · simp [lnOk, hasK, dB, h2]
    · rfl
  · show given.length = rows.length
    simp only [spG, List.mem_cons, List.not_mem_nil, or_false] at hg
    rcases hg with rfl | rfl | rfl | rfl <;> simp [h2]
  · intro g hgm
    have hgm : g ∈ given := hgm
    have : g = [] ∨ g = [⟨.f, false⟩] := by
      simp only [spG, List.mem_cons, List.not_mem_nil, or_false] at hg
      rcases hg with rfl | rfl | rfl | rfl <;> simp at hgm <;> (try rcases hgm with rfl | rfl) <;> simp_all
    rcases this with rfl | rfl
    · exact ⟨fun n hn => (by cases hn), List.Pairwise.nil⟩
    · refine ⟨?_, List.pairwise_singleton _ _⟩
      intro n hn
      rw [List.mem_singleton] at hn
      subst hn
      rfl
theorem special (H : Hs) (x0 : Option D) (M X : Mem) (h : HP M X) (hX : X[0]? = some (.dks false (hDks H))) (hXl : X.length = 1) : ∃ (H' : Hs) (M' : Mem) (y5 y6 y7 y15 : Option D), HOk H' ∧ HP M' (X ++ [.dks false (hDks H')]) ∧
    (mSeq (mAsg (mTup (mCons (mLst (mCons (mTup (mCons (mC (.str [110, 111, 116, 101])) (mCons (mC (.int 0)) mNil))) (mCons (mTup (mCons (mC (.str [109, 97, 114, 107])) mNil)) (mCons (mTup (mCons (mC (.str [107, 101, 101, 112])) mNil)) (mCons (mTup (mCons (mC (.str [97, 100, 100])) (mCons (mC (.int 1)) mNil))) (mCons (mTup (mCons (mC (.str [104, 97, 110, 100])) (mCons (mC (.int 0)) (mCons (mC (.str [102, 48])) mNil)))) mNil)))))) (mCons (mTup mNil) mNil))) (gTp 2 (gsCons (gN 5) (gsCons (gN 15) gsNil)))) (mSeq (mAsg (mB addD (mVar 5) (mLst (mCons (mTup (mCons (mC (.str [104, 97, 110, 100])) (mCons (mC (.int 1)) (mCons (mC (.str [102, 48])) mNil)))) (mCons (mTup (mCons (mC (.str [114, 101, 97, 100])) (mCons (mC (.int 0)) mNil))) mNil)))) (gN 5)) (mSeq (mFor (mRng1 (mCons (mC (.int 2)) mNil)) fg_41_1 fb_41_1) (mSeq (mAsg (mB ixD (mLst (mCons (mTup (mCons (mTup (mCons (mC (.str [102, 48])) mNil)) (mCons (mTup mNil) mNil))) (mCons (mTup (mCons (mTup mNil) (mCons (mTup (mCons (mC (.str [102, 48])) mNil)) mNil))) (mCons (mTup (mCons (mTup (mCons (mC (.str [102, 48])) mNil)) (mCons (mTup (mCons (mC (.str [102, 48])) mNil)) mNil))) (mCons (mTup (mCons (mTup mNil) (mCons (mTup mNil) mNil))) mNil))))) (mCall 35 (mCons (mVar 1) (mCons (mC (.int 4)) mNil)))) (gN 7)) (mAsg (mDks [([114, 111, 119, 115], (mVar 15)), ([107, 105, 110, 100, 115], (mTup (mCons (mC (.int 0)) (mCons (mC (.int 0)) (mCons (mTup mNil) (mCons (mC (.int 0)) (mCons (mC (.int 1)) mNil))))))), ([103, 105, 118, 101, 110], (mVar 7)), ([119, 97, 121], (mB ixD (mVar 2) (mC (.str [119, 97, 121]))))]) (gN 2)))))) (callF tb 13) [x0, some (.obj 0), some (.obj 1), none, none, none, none, none, none, none, none, none, none, none, none, none, none, none, none, none] M = .ok (.next [x0, some (.obj 0), some (.obj 2), none, none, y5, y6, y7, none, none, none, none, none, none, none, y15, none, none, none, none]) M' := by
  have hS3 : (mAsg (mTup (mCons (mLst (mCons (mTup (mCons (mC (.str [110, 111, 116, 101])) (mCons (mC (.int 0)) mNil))) (mCons (mTup (mCons (mC (.str [109, 97, 114, 107])) mNil)) (mCons (mTup (mCons (mC (.str [107, 101, 101, 112])) mNil)) (mCons (mTup (mCons (mC (.str [97, 100, 100])) (mCons (mC (.int 1)) mNil))) (mCons (mTup (mCons (mC (.str [104, 97, 110, 100])) (mCons (mC (.int 0)) (mCons (mC (.str [102, 48])) mNil)))) mNil)))))) (mCons (mTup mNil) mNil))) (gTp 2 (gsCons (gN 5) (gsCons (gN 15) gsNil)))) (callF tb 13) [x0, some (.obj 0), some (.obj 1), none, none, none, none, none, none, none, none, none, none, none, none, none, none, none, none, none] M = .ok (.next [x0, some (.obj 0), some (.obj 1), none, none, some (.lst ([Ln.note false, .mark, .keep, .add 1, .hand 0 ⟨.f, false⟩].map eLn)), none, none, none, none, none, none, none, none, none, some (eRows []), none, none, none, none]) M := by
    simp [eLn, Ln.word, Ln.rest, eNm, Nm.txt, Kd.ch, dB]
    rfl
  have hS4 : (mAsg (mB addD (mVar 5) (mLst (mCons (mTup (mCons (mC (.str [104, 97, 110, 100])) (mCons (mC (.int 1)) (mCons (mC (.str [102, 48])) mNil)))) (mCons (mTup (mCons (mC (.str [114, 101, 97, 100])) (mCons (mC (.int 0)) mNil))) mNil)))) (gN 5)) (callF tb 13) [x0, some (.obj 0), some (.obj 1), none, none, some (.lst ([Ln.note false, .mark, .keep, .add 1, .hand 0 ⟨.f, false⟩].map eLn)), none, none, none, none, none, none, none, none, none, some (eRows []), none, none, none, none] M = .ok (.next [x0, some (.obj 0), some (.obj 1), none, none, some (.lst (spL.map eLn)), none, none, none, none, none, none, none, none, none, some (eRows []), none, none, none, none]) M := by
    have ha : ∀ M, addD (.lst ([Ln.note false, .mark, .keep, .add 1, .hand 0 ⟨.f, false⟩].map eLn)) (.lst ([Ln.hand 1 ⟨.f, false⟩, .read false].map eLn)) M = .ok (.lst (spL.map eLn)) M := fun M => add_lst (by decide) M
    have hl : (D.lst [.tup [.str [104, 97, 110, 100], .int 1, .str [102, 48]], .tup [.str [114, 101, 97, 100], .int 0]]) = .lst ([Ln.hand 1 ⟨.f, false⟩, .read false].map eLn) := rfl
    simp only [ap_asg, ap_B, ap_var, List.getElem?_cons_zero, List.getElem?_cons_succ, Res.bind_ok, ap_lst, ap_cons, ap_nil, ap_tup, ap_c, List.length_cons, List.length_nil, Nat.reduceAdd, Nat.zero_add, lim1, lim2, lim3, if_true, hl, ha, Res.noX, Res.toS, ap_gN, List.set_cons_succ, List.set_cons_zero]
  obtain ⟨rows, y6, M1, p1, p2, hM1, p4⟩ := sp_loop X x0 [0, 1] [] none M (by decide) (by simp) h
  have hS5 : (mFor (mRng1 (mCons (mC (.int 2)) mNil)) fg_41_1 fb_41_1) (callF tb 13) [x0, some (.obj 0), some (.obj 1), none, none, some (.lst (spL.map eLn)), none, none, none, none, none, none, none, none, none, some (eRows []), none, none, none, none] M = .ok (.next [x0, some (.obj 0), some (.obj 1), none, none, some (.lst (spL.map eLn)), y6, none, none, none, none, none, none, none, none, some (eRows rows), none, none, none, none]) M1 := by
    have hr2 : rngOk 2 = true := by decide
    have hr3 : rngD 0 2 = [0, 1].map dN := rfl
    simp only [ap_for, ap_rng1, ap_cons, ap_c, ap_nil, Res.bind_ok, hr2, if_true, Res.toS]
    exact p4
  obtain ⟨r4, M2, hr4, hM2, hp4⟩ := pick_ok 12 4 (by decide) (by decide) M1 X hM1
  have hp4' : callF tb 13 35 [.obj 0, .int 4] M1 = .ok (dN r4) M2 := hp4
  obtain ⟨given, hgv⟩ := some_at (l := spG) (i := r4) hr4
  have hix : ∀ M, ixD (.lst [.tup [.tup [.str [102, 48]], .tup []], .tup [.tup [], .tup [.str [102, 48]]], .tup [.tup [.str [102, 48]], .tup [.str [102, 48]]], .tup [.tup [], .tup []]]) (.int (r4 : Int)) M = .ok (eRights given) M := fun M => by
    have := ixL eRights spG r4 M
    rw [hgv] at this
    exact this
  have hS6 : (mAsg (mB ixD (mLst (mCons (mTup (mCons (mTup (mCons (mC (.str [102, 48])) mNil)) (mCons (mTup mNil) mNil))) (mCons (mTup (mCons (mTup mNil) (mCons (mTup (mCons (mC (.str [102, 48])) mNil)) mNil))) (mCons (mTup (mCons (mTup (mCons (mC (.str [102, 48])) mNil)) (mCons (mTup (mCons (mC (.str [102, 48])) mNil)) mNil))) (mCons (mTup (mCons (mTup mNil) (mCons (mTup mNil) mNil))) mNil))))) (mCall 35 (mCons (mVar 1) (mCons (mC (.int 4)) mNil)))) (gN 7)) (callF tb 13) [x0, some (.obj 0), some (.obj 1), none, none, some (.lst (spL.map eLn)), y6, none, none, none, none, none, none, none, none, some (eRows rows), none, none, none, none] M1 = .ok (.next [x0, some (.obj 0), some (.obj 1), none, none, some (.lst (spL.map eLn)), y6, some (eRights given), none, none, none, none, none, none, none, some (eRows rows), none, none, none, none]) M2 := by
    simp [hp4', hix]
  obtain ⟨H', hH'⟩ : ∃ H' : Hs, H' = { rows := rows, kc := 0, kl := 0, kp := [], ks := 0, kf := 1, given := given, ord := H.ord, all := H.all } := ⟨_, rfl⟩
  have hO : HOk H' := by
    rw [hH']
    exact sp_ok (by simpa using p1) p2 (List.mem_of_getElem? hgv) H.ord H.all
  have hj : M2[1]? = some (.dks false (hDks H)) := hp_get hM2 hX
  have hM2l : M2.length = 2 := by rw [hp_len hM2, hXl]
  have hS7 : (mAsg (mDks [([114, 111, 119, 115], (mVar 15)), ([107, 105, 110, 100, 115], (mTup (mCons (mC (.int 0)) (mCons (mC (.int 0)) (mCons (mTup mNil) (mCons (mC (.int 0)) (mCons (mC (.int 1)) mNil))))))), ([103, 105, 118, 101, 110], (mVar 7)), ([119, 97, 121], (mB ixD (mVar 2) (mC (.str [119, 97, 121]))))]) (gN 2)) (callF tb 13) [x0, some (.obj 0), some (.obj 1), none, none, some (.lst (spL.map eLn)), y6, some (eRights given), none, none, none, none, none, none, none, some (eRows rows), none, none, none, none] M2 = .ok (.next [x0, some (.obj 0), some (.obj 2), none, none, some (.lst (spL.map eLn)), y6, some (eRights given), none, none, none, none, none, none, none, some (eRows rows), none, none, none, none]) (M2 ++ [.dks false (hDks H')]) := by
    have hd : [(D.str [114, 111, 119, 115], eRows rows), (.str [107, 105, 110, 100, 115], .tup [.int 0, .int 0, .tup [], .int 0, .int 1]), (.str [103, 105, 118, 101, 110], eRights given), (.str [119, 97, 121], eWay H)] = hDks H' := by rw [hH']; rfl
    have hbel : D.bels M2.length ([eRows rows, .tup [.int 0, .int 0, .tup [], .int 0, .int 1], eRights given, eWay H]) = true := by
      have := noO_hs H'
      rw [hH'] at this
      exact bels_pure _ _ this
    have hmk : mDks [([114, 111, 119, 115], (mVar 15)), ([107, 105, 110, 100, 115], (mTup (mCons (mC (.int 0)) (mCons (mC (.int 0)) (mCons (mTup mNil) (mCons (mC (.int 0)) (mCons (mC (.int 1)) mNil))))))), ([103, 105, 118, 101, 110], (mVar 7)), ([119, 97, 121], (mB ixD (mVar 2) (mC (.str [119, 97, 121]))))] (callF tb 13) [x0, some (.obj 0), some (.obj 1), none, none, some (.lst (spL.map eLn)), y6, some (eRights given), none, none, none, none, none, none, none, some (eRows rows), none, none, none, none] M2 = .ok (.obj 2) (M2 ++ [.dks false (hDks H')]) := by
      simp only [ap_dks, ap_evP0, ap_evP1, ap_var, ap_c, ap_tup, ap_cons, ap_nil, ap_B, hd_way hj, List.getElem?_cons_zero, List.getElem?_cons_succ, Res.bind_ok, Res.noX, Nat.reduceAdd, Nat.zero_add, List.length_cons, List.length_nil, lim5, lim0, if_true]
      rw [if_pos ⟨by decide, hbel⟩, hd, hM2l]
    simp only [ap_asg, hmk, Res.toS, ap_gN, Res.bind_ok, List.set_cons_succ, List.set_cons_zero]
  refine ⟨H', M2 ++ [.dks false (hDks H')], some (.lst (spL.map eLn)), y6, some (eRights given), some (eRows rows), hO, hp_snoc hM2 _, ?_⟩
  simp only [ap_seq, hS3, hS4, hS5, hS6, hS7, Res.bind_ok]
end K76

set_option maxHeartbeats 1000000
namespace K76
open PySem RI HT
open L2 hiding St
theorem law_loop (H : Hs) (ho : HOk H) (j' j : Nat) (hj' : j = j' + 1) (X : Mem) (hX : X[j']? = some (.dks false (hDks H))) (x0 x4 x5 x7 x15 x18 x19 : Option D) : ∀ (l : List Nat) (s : St) (m : Nat) (x3 x6 x10 x11 x12 x13 x14 x16 x17 : Option D) (M : Mem), Good H s → Inv76 H s → s.log.length + s.buffer.length ≤ m → m + l.length ≤ 900 → HP M X →
    ∃ (s' : St) (M' : Mem) (z3 z6 z10 z11 z12 z13 z14 z16 z17 : Option D), Good H s' ∧ HP M' X ∧ forG none fg_41_8 fb_41_8 (callF tb 13) (l.map dN) [x0, some (.obj 0), some (.obj j), x3, x4, x5, x6, x7, some (eHs H), some (eSt s), x10, x11, x12, x13, x14, x15, x16, x17, x18, x19] M = .ok (.next [x0, some (.obj 0), some (.obj j), z3, x4, x5, z6, x7, some (eHs H), some (eSt s'), z10, z11, z12, z13, z14, x15, z16, z17, x18, x19]) M'
  | [], s, m, x3, x6, x10, x11, x12, x13, x14, x16, x17, M, gs, is, hm, hz, h => ⟨s, M, x3, x6, x10, x11, x12, x13, x14, x16, x17, gs, h, rfl⟩
  | k :: l, s, m, x3, x6, x10, x11, x12, x13, x14, x16, x17, M, gs, is, hm, hz, h => by
    simp only [List.length_cons] at hz
    obtain ⟨s1, M1, y3, y6, y10, y11, y12, y13, y14, y16, y17, g1, i1, f1, h1, e1⟩ := law_turn 7 H ho s gs is m hm (by omega) j' j hj' k M X h hX x0 x3 x4 x5 x6 x7 x10 x11 x12 x13 x14 x15 x16 x17 x18 x19
    obtain ⟨s2, M2, z3, z6, z10, z11, z12, z13, z14, z16, z17, g2, h2, e2⟩ := law_loop H ho j' j hj' X hX x0 x4 x5 x7 x15 x18 x19 l s1 (m + 1) y3 y6 y10 y11 y12 y13 y14 y16 y17 M1 g1 i1 f1 (by omega) h1
    refine ⟨s2, M2, z3, z6, z10, z11, z12, z13, z14, z16, z17, g2, h2, ?_⟩
    simp only [List.map_cons, forG, gd_none, if_true]
    rw [← RI.bind_assoc, e1, Res.bind_ok]
    exact e2
theorem is_why (o : Option Why) (M : Mem) : isD true (dO eWhy o) .non M = .ok (.bl o.isSome) M := by
  cases o with
  | none => rfl
  | some w => cases w <;> rfl
theorem run : Run := by
  intro ns hns
  rw [u_41]
  have h0 : HP (memP ns 0 0 7 []) [] := ⟨ns, 0, 0, 7, by omega, by omega, hns, rfl⟩
  have hd := draws 12 ns []
  obtain ⟨H0, M1, ho0, hM1, eh⟩ := law_house 10 6 ⟨by decide, by decide⟩ (memP ns 0 0 7 []) [] h0
  have eh' : callF tb 13 39 [.obj 0, .int 6] (memP ns 0 0 7 []) = .ok (.obj 1) (M1 ++ [.dks false (hDks H0)]) := eh
  have hM1' : HP (M1 ++ [.dks false (hDks H0)]) [.dks false (hDks H0)] := hp_snoc hM1 _
  generalize M1 ++ [.dks false (hDks H0)] = M1d at eh' hM1'
  obtain ⟨r3, M2, hr3, hM2, hp3⟩ := pick_ok 12 3 (by decide) (by decide) M1d _ hM1'
  have hp3' : callF tb 13 35 [.obj 0, .int 3] M1d = .ok (dN r3) M2 := hp3
  generalize hx0 : some (D.lst (ns.map D.int)) = x0
  have hI : ∃ (H : Hs) (j' j : Nat) (X M3 : Mem) (y5 y6 y7 y15 : Option D), j = j' + 1 ∧ HOk H ∧ HP M3 X ∧ X[j']? = some (.dks false (hDks H)) ∧ (mIfS (mTB (mB gtD (mCall 35 (mCons (mVar 1) (mCons (mC (.int 3)) mNil))) (mC (.int 0))))
 (mSeq (mAsg (mTup (mCons (mLst (mCons (mTup (mCons (mC (.str [110, 111, 116, 101])) (mCons (mC (.int 0)) mNil))) (mCons (mTup (mCons (mC (.str [109, 97, 114, 107])) mNil)) (mCons (mTup (mCons (mC (.str [107, 101, 101, 112])) mNil)) (mCons (mTup (mCons (mC (.str [97, 100, 100])) (mCons (mC (.int 1)) mNil))) (mCons (mTup (mCons (mC (.str [104, 97, 110, 100])) (mCons (mC (.int 0)) (mCons (mC (.str [102, 48])) mNil)))) mNil)))))) (mCons (mTup mNil) mNil))) (gTp 2 (gsCons (gN 5) (gsCons (gN 15) gsNil)))) (mSeq (mAsg (mB addD (mVar 5) (mLst (mCons (mTup (mCons (mC (.str [104, 97, 110, 100])) (mCons (mC (.int 1)) (mCons (mC (.str [102, 48])) mNil)))) (mCons (mTup (mCons (mC (.str [114, 101, 97, 100])) (mCons (mC (.int 0)) mNil))) mNil)))) (gN 5)) (mSeq (mFor (mRng1 (mCons (mC (.int 2)) mNil)) fg_41_1 fb_41_1) (mSeq (mAsg (mB ixD (mLst (mCons (mTup (mCons (mTup (mCons (mC (.str [102, 48])) mNil)) (mCons (mTup mNil) mNil))) (mCons (mTup (mCons (mTup mNil) (mCons (mTup (mCons (mC (.str [102, 48])) mNil)) mNil))) (mCons (mTup (mCons (mTup (mCons (mC (.str [102, 48])) mNil)) (mCons (mTup (mCons (mC (.str [102, 48])) mNil)) mNil))) (mCons (mTup (mCons (mTup mNil) (mCons (mTup mNil) mNil))) mNil))))) (mCall 35 (mCons (mVar 1) (mCons (mC (.int 4)) mNil)))) (gN 7)) (mAsg (mDks [([114, 111, 119, 115], (mVar 15)), ([107, 105, 110, 100, 115], (mTup (mCons (mC (.int 0)) (mCons (mC (.int 0)) (mCons (mTup mNil) (mCons (mC (.int 0)) (mCons (mC (.int 1)) mNil))))))), ([103, 105, 118, 101, 110], (mVar 7)), ([119, 97, 121], (mB ixD (mVar 2) (mC (.str [119, 97, 121]))))]) (gN 2))))))
 mSkip) (callF tb 13) [x0, some (.obj 0), some (.obj 1), none, none, none, none, none, none, none, none, none, none, none, none, none, none, none, none, none] M1d = .ok (.next [x0, some (.obj 0), some (.obj j), none, none, y5, y6, y7, none, none, none, none, none, none, none, y15, none, none, none, none]) M3 := by
    by_cases hz : 0 < r3
    · obtain ⟨H', M3, y5, y6, y7, y15, q1, q2, q3⟩ := special H0 x0 M2 _ hM2 rfl rfl
      refine ⟨H', 1, 2, _, M3, y5, y6, y7, y15, rfl, q1, q2, rfl, ?_⟩
      have hc : (mTB (mB gtD (mCall 35 (mCons (mVar 1) (mCons (mC (.int 3)) mNil))) (mC (.int 0)))) (callF tb 13) [x0, some (.obj 0), some (.obj 1), none, none, none, none, none, none, none, none, none, none, none, none, none, none, none, none, none] M1d = .ok true M2 := by simp [hp3', hz]
      rw [ap_ifS, hc]
      exact q3
    · refine ⟨H0, 0, 1, _, M2, none, none, none, none, rfl, ho0, hM2, rfl, ?_⟩
      have hc : (mTB (mB gtD (mCall 35 (mCons (mVar 1) (mCons (mC (.int 3)) mNil))) (mC (.int 0)))) (callF tb 13) [x0, some (.obj 0), some (.obj 1), none, none, none, none, none, none, none, none, none, none, none, none, none, none, none, none, none] M1d = .ok false M2 := by simp [hp3', hz]
      rw [ap_ifS, hc]
      rfl
  obtain ⟨H, j', j, X, M3, y5, y6, y7, y15, hj', ho, hM3, hX, eI⟩ := hI
  have hj : M3[j]? = some (.dks false (hDks H)) := by rw [hj']; exact hp_get hM3 hX
  have hmade := made 8 H ho j M3 hj
  have hbeg := begin_ 10 H ho M3
  have hS9 : (mAsg (mTup (mCons (mCall 40 (mCons (mVar 2) mNil)) (mCons (mCall 17 (mCons (mCall 40 (mCons (mVar 2) mNil)) mNil)) mNil))) (gTp 2 (gsCons (gN 8) (gsCons (gN 9) gsNil)))) (callF tb 13) [x0, some (.obj 0), some (.obj j), none, none, y5, y6, y7, none, none, none, none, none, none, none, y15, none, none, none, none] M3 = .ok (.next [x0, some (.obj 0), some (.obj j), none, none, y5, y6, y7, some (eHs H), some (eSt (begun H (List.replicate H.kf 0))), none, none, none, none, none, y15, none, none, none, none]) M3 := by
    simp [hmade, hbeg]
  obtain ⟨r30, M4, hr30, hM4, hp30⟩ := pick_ok 12 30 (by decide) (by decide) M3 X hM3
  have hp30' : callF tb 13 35 [.obj 0, .int 30] M3 = .ok (dN r30) M4 := hp30
  have hg0 : Good H (begun H (List.replicate H.kf 0)) := good_begun ho (by simp)
  have hi0 : Inv76 H (begun H (List.replicate H.kf 0)) := inv_begun (by simp)
  obtain ⟨s, M5, z3, z6, z10, z11, z12, z13, z14, z16, z17, gs, hM5, eL⟩ := law_loop H ho j' j hj' X hX x0 none y5 y7 y15 none none (List.range r30) (begun H (List.replicate H.kf 0)) 0 none y6 none none none none none none none M4 hg0 hi0 (by show 0 + 0 ≤ 0; omega) (by simp; omega) hM4
  have hS10 : (mFor (mRng1 (mCons (mCall 35 (mCons (mVar 1) (mCons (mC (.int 30)) mNil))) mNil)) fg_41_8 fb_41_8) (callF tb 13) [x0, some (.obj 0), some (.obj j), none, none, y5, y6, y7, some (eHs H), some (eSt (begun H (List.replicate H.kf 0))), none, none, none, none, none, y15, none, none, none, none] M3 = .ok (.next [x0, some (.obj 0), some (.obj j), z3, none, y5, z6, y7, some (eHs H), some (eSt s), z10, z11, z12, z13, z14, y15, z16, z17, none, none]) M5 := by
    have h1 : r30 ≤ 1000 := by omega
    simp [hp30', h1, rng0, eL]
  have hw := waiting 9 H ho s gs.toWf M5
  have hS11 : (mAsg (mCall 33 (mCons (mVar 8) (mCons (mVar 9) mNil))) (gN 4)) (callF tb 13) [x0, some (.obj 0), some (.obj j), z3, none, y5, z6, y7, some (eHs H), some (eSt s), z10, z11, z12, z13, z14, y15, z16, z17, none, none] M5 = .ok (.next [x0, some (.obj 0), some (.obj j), z3, some (.lst ((waitH H s).map (dO eWhy))), y5, z6, y7, some (eHs H), some (eSt s), z10, z11, z12, z13, z14, y15, z16, z17, none, none]) M5 := by
    simp [hw]
  have hj5 : M5[j]? = some (.dks false (hDks H)) := by rw [hj']; exact hp_get hM5 hX
  have hm1 : many H ≤ 1000 := by have := ho.many; unfold many; omega
  have hm2 : many H ≤ 16777216 := by omega
  have hlc := fun (x0 x1 x2 x3 x5 x7 x10 x11 x12 x13 x14 x15 x16 x17 x18 x19 : Option D) => lc_ok (gd := none) (g := lg_41_9) (mt := lt_41_9) (me := le_41_9) (F := (callF tb 13)) (r := [x0, x1, x2, x3, some (.lst ((waitH H s).map (dO eWhy))), x5, none, x7, some (eHs H), some (eSt s), x10, x11, x12, x13, x14, x15, x16, x17, x18, x19]) (enc := dN) (M := M5) rfl (fun k => can H s k && (whyH H s k).isSome) dN (List.range (many H)) fun k hk => by
    have hk' : k < many H := List.mem_range.mp hk
    have hc := fun M => can_step 11 H ho s gs.toWf k hk' M
    have hwk : ∀ M, ixD (.lst ((waitH H s).map (dO eWhy))) (.int (k : Int)) M = .ok (dO eWhy (whyH H s k)) M := fun M => by
      rw [ixL (dO eWhy) (waitH H s) k M]
      unfold waitH
      rw [List.getElem?_map, List.getElem?_range hk']
      rfl
    refine ⟨[x0, x1, x2, x3, some (.lst ((waitH H s).map (dO eWhy))), x5, some (dN k), x7, some (eHs H), some (eSt s), x10, x11, x12, x13, x14, x15, x16, x17, x18, x19], by simp [lg_41_9], ?_, fun _ => by simp [le_41_9]⟩
    cases hcan : can H s k <;> simp [lt_41_9, hc, hcan, hwk, is_why]
  have hnone : (List.range (many H)).filter (fun k => can H s k && (whyH H s k).isSome) = [] := by
    rw [List.filter_eq_nil_iff]
    intro k _
    cases hcan : can H s k with
    | false => simp
    | true => rw [why_can hcan]; simp
  rw [hnone] at hlc
  refine ⟨M5.take 0, ?_⟩
  have hS1 : (mAsg (mCall 34 (mCons (mVar 0) mNil)) (gN 1)) (callF tb 13) [x0, none, none, none, none, none, none, none, none, none, none, none, none, none, none, none, none, none, none, none] [] = .ok (.next [x0, some (.obj 0), none, none, none, none, none, none, none, none, none, none, none, none, none, none, none, none, none, none]) (memP ns 0 0 7 []) := by
    rw [← hx0]
    simp [hd]
  have hS2 : (mAsg (mCall 39 (mCons (mVar 1) (mCons (mC (.int 6)) mNil))) (gN 2)) (callF tb 13) [x0, some (.obj 0), none, none, none, none, none, none, none, none, none, none, none, none, none, none, none, none, none, none] (memP ns 0 0 7 []) = .ok (.next [x0, some (.obj 0), some (.obj 1), none, none, none, none, none, none, none, none, none, none, none, none, none, none, none, none, none]) M1d := by
    simp [eh']
  simp only [b_41, ap_seq, hS1, hS2, eI, hS9, hS10, hS11, Res.bind_ok]
  simp [hd_rows hj5, lenRows, hm1, hm2, rng0, rng_len, wipeE, hlc]
  rfl
end K76

open PySem PySem.W PyProof.Rows
set_option maxHeartbeats 0 in
theorem PySem.Challenge.cw_stephouse_k76_whole_rights_beside_the_lo_holds : PySem.Challenge.rw_stephouse_k76_whole_rights_beside_the_lo.Holds := by
  w_on; o_law; k_head; (case hw => w_witness2)
  k_fill
  refine L2.walk_of (l := PySem.Challenge.rw_stephouse_k76_whole_rights_beside_the_lo) (n := 63) (k := 28) (x := "_law_script") (CX := fun w => L2.CX PySem.Challenge.rw_stephouse_k76_whole_rights_beside_the_lo.prog w) (sp := fun w => RI.spL K76.tb _ PySem.Challenge.rw_stephouse_k76_whole_rights_beside_the_lo.prog w ["_law_script"] 14 41) rfl (by decide) rfl ⟨rfl, by decide, by decide⟩ (fun w h Y => PySem.W.kIn_of Y) ?F (fun _ _ a ns hl _ hS => RI.sp_lawL hS (K76.run ns hl)) (fun _ _ _ _ _ h => RI.cx_no h)
  case F =>
    intro w mg fa h KX G hmg
    refine' K76.all_mk KX G hmg ?qqca0 ?qqcp0 ?qqch0 ?qqco0 ?qqcs0 ?qqcm0 ?qqck0 ?qqa0 ?qql0 ?qqc0 ?qqk0 ?qqa1 ?qql1 ?qqc1 ?qqk1 ?qqa2 ?qql2 ?qqc2 ?qqk2 ?qqa3 ?qql3 ?qqc3 ?qqk3 ?qqa4 ?qql4 ?qqc4 ?qqk4 ?qqa5 ?qql5 ?qqc5 ?qqk5 ?qqa6 ?qql6 ?qqc6 ?qqk6 ?qqa7 ?qql7 ?qqc7 ?qqk7 ?qqa8 ?qqi8 ?qql8 ?qqc8 ?qqk8 ?qqa14 ?qql14 ?qqc14 ?qqk14 ?qqa15 ?qql15 ?qqc15 ?qqk15 ?qqa16 ?qql16 ?qqc16 ?qqk16 ?qqa17 ?qql17 ?qqc17 ?qqk17 ?qqa18 ?qql18 ?qqc18 ?qqk18 ?qqa19 ?qql19 ?qqc19 ?qqk19 ?qqa20 ?qql20 ?qqc20 ?qqk20 ?qqa21 ?qql21 ?qqc21 ?qqk21 ?qqa22 ?qql22 ?qqc22 ?qqk22 ?qqa23 ?qql23 ?qqc23 ?qqk23 ?qqa24 ?qql24 ?qqc24 ?qqk24 ?qqa25 ?qql25 ?qqc25 ?qqk25 ?qqa26 ?qql26 ?qqc26 ?qqk26 ?qqa27 ?qql27 ?qqc27 ?qqk27 ?qqa28 ?qql28 ?qqc28 ?qqk28 ?qqa29 ?qql29 ?qqc29 ?qqk29 ?qqa30 ?qql30 ?qqc30 ?qqk30 ?qqa31 ?qql31 ?qqc31 ?qqk31 ?qqa32 ?qql32 ?qqc32 ?qqk32 ?qqa33 ?qql33 ?qqc33 ?qqk33 ?qqa34 ?qql34 ?qqc34 ?qqk34 ?qqa35 ?qql35 ?qqc35 ?qqk35 ?qqa36 ?qql36 ?qqc36 ?qqk36 ?qqa37 ?qql37 ?qqc37 ?qqk37 ?qqa38 ?qql38 ?qqc38 ?qqk38 ?qqa39 ?qql39 ?qqc39 ?qqk39 ?qqa40 ?qql40 ?qqc40 ?qqk40 ?qqa41 ?qql41 ?qqc41 ?qqk41 ?qqg0 ?qqg1 ?qqg2 ?qqg3 ?qqg4 ?qqgl4 ?qqg5 ?qqgl5 ?qqg6 ?qqgl6 ?qqg7 ?qqg8 ?qqgl8 ?qqg9 ?qqgl9 ?qqg10 ?qqg11 ?qqg12 ?qqg13 ?qqgl13 ?qqqa0 ?qqql0 ?qqqs0 ?qqxa0 ?qqxb0 ?qqxt0 ?qqxd0 ?qqxa1 ?qqxb1 ?qqxt1 ?qqxd1 ?qqxa2 ?qqxb2 ?qqxt2 ?qqxd2 ?qqxk0 ?qqxx0 ?qqxk1 ?qqxx1 ?qqxk2 ?qqxx2 ?qqn0 ?qqn1 ?qqn2 ?qqn3 ?qqz0 ?qqz1 ?qqz2 ?qqz3 ?qqz4 ?qqz5 ?qqz6 ?qqz7 ?qqz8 ?qqz9 ?qqz10 ?qqz11 ?qqz12 ?qqz13 ?qqz14 ?qqz15 ?qqz16 ?qqz17
    (case qqca0 => k_is)
    (case qqcp0 => k_is)
    (case qqch0 => k_is)
    (case qqco0 => k_is)
    (case qqcs0 => k_is)
    (case qqcm0 => k_is)
    (case qqck0 => k_is)
    (case qqa0 => k_is)
    (case qql0 => k_is)
    (case qqc0 => k_is)
    (case qqk0 => k_is)
    (case qqa1 => k_is)
    (case qql1 => k_is)
    (case qqc1 => k_is)
    (case qqk1 => k_is)
    (case qqa2 => k_is)
    (case qql2 => k_is)
    (case qqc2 => k_is)
    (case qqk2 => k_is)
    (case qqa3 => k_is)
    (case qql3 => k_is)
    (case qqc3 => k_is)
    (case qqk3 => k_is)
    (case qqa4 => k_is)
    (case qql4 => k_is)
    (case qqc4 => k_is)
    (case qqk4 => k_is)
    (case qqa5 => k_is)
    (case qql5 => k_is)
    (case qqc5 => k_is)
    (case qqk5 => k_is)
    (case qqa6 => k_is)
    (case qql6 => k_is)
    (case qqc6 => k_is)
    (case qqk6 => k_is)
    (case qqa7 => k_is)
    (case qql7 => k_is)
    (case qqc7 => k_is)
    (case qqk7 => k_is)
    (case qqa8 => k_is)
    (case qqi8 => k_is)
    (case qql8 => k_is)
    (case qqc8 => k_is)
    (case qqk8 => k_is)
    (case qqa14 => k_is)
    (case qql14 => k_is)
    (case qqc14 => k_is)
    (case qqk14 => k_is)
    (case qqa15 => k_is)
    (case qql15 => k_is)
    (case qqc15 => k_is)
    (case qqk15 => k_is)
    (case qqa16 => k_is)
    (case qql16 => k_is)
    (case qqc16 => k_is)
    (case qqk16 => k_is)
    (case qqa17 => k_is)
    (case qql17 => k_is)
    (case qqc17 => k_is)
    (case qqk17 => k_is)
    (case qqa18 => k_is)
    (case qql18 => k_is)
    (case qqc18 => k_is)
    (case qqk18 => k_is)
    (case qqa19 => k_is)
    (case qql19 => k_is)
    (case qqc19 => k_is)
    (case qqk19 => k_is)
    (case qqa20 => k_is)
    (case qql20 => k_is)
    (case qqc20 => k_is)
    (case qqk20 => k_is)
    (case qqa21 => k_is)
    (case qql21 => k_is)
    (case qqc21 => k_is)
    (case qqk21 => k_is)
    (case qqa22 => k_is)
    (case qql22 => k_is)
    (case qqc22 => k_is)
    (case qqk22 => k_is)
    (case qqa23 => k_is)
    (case qql23 => k_is)
    (case qqc23 => k_is)
    (case qqk23 => k_is)
    (case qqa24 => k_is)
    (case qql24 => k_is)
    (case qqc24 => k_is)
    (case qqk24 => k_is)
    (case qqa25 => k_is)
    (case qql25 => k_is)
    (case qqc25 => k_is)
    (case qqk25 => k_is)
    (case qqa26 => k_is)
    (case qql26 => k_is)
    (case qqc26 => k_is)
    (case qqk26 => k_is)
    (case qqa27 => k_is)
    (case qql27 => k_is)
    (case qqc27 => k_is)
    (case qqk27 => k_is)
    (case qqa28 => k_is)
    (case qql28 => k_is)
    (case qqc28 => k_is)
    (case qqk28 => k_is)
    (case qqa29 => k_is)
    (case qql29 => k_is)
    (case qqc29 => k_is)
    (case qqk29 => k_is)
    (case qqa30 => k_is)
    (case qql30 => k_is)
    (case qqc30 => k_is)
    (case qqk30 => k_is)
    (case qqa31 => k_is)
    (case qql31 => k_is)
    (case qqc31 => k_is)
    (case qqk31 => k_is)
    (case qqa32 => k_is)
    (case qql32 => k_is)
    (case qqc32 => k_is)
    (case qqk32 => k_is)
    (case qqa33 => k_is)
    (case qql33 => k_is)
    (case qqc33 => k_is)
    (case qqk33 => k_is)
    (case qqa34 => k_is)
    (case qql34 => k_is)
    (case qqc34 => k_is)
    (case qqk34 => k_is)
    (case qqa35 => k_is)
    (case qql35 => k_is)
    (case qqc35 => k_is)
    (case qqk35 => k_is)
    (case qqa36 => k_is)
    (case qql36 => k_is)
    (case qqc36 => k_is)
    (case qqk36 => k_is)
    (case qqa37 => k_is)
    (case qql37 => k_is)
    (case qqc37 => k_is)
    (case qqk37 => k_is)
    (case qqa38 => k_is)
    (case qql38 => k_is)
    (case qqc38 => k_is)
    (case qqk38 => k_is)
    (case qqa39 => k_is)
    (case qql39 => k_is)
    (case qqc39 => k_is)
    (case qqk39 => k_is)
    (case qqa40 => k_is)
    (case qql40 => k_is)
    (case qqc40 => k_is)
    (case qqk40 => k_is)
    (case qqa41 => k_is)
    (case qql41 => k_is)
    (case qqc41 => k_is)
    (case qqk41 => k_is)
    (case qqg0 => k_is)
    (case qqg1 => k_is)
    (case qqg2 => k_is)
    (case qqg3 => k_is)
    (case qqg4 => k_is)
    (case qqgl4 => k_is)
    (case qqg5 => k_is)
    (case qqgl5 => k_is)
    (case qqg6 => k_is)
    (case qqgl6 => k_is)
    (case qqg7 => k_is)
    (case qqg8 => k_is)
    (case qqgl8 => k_is)
    (case qqg9 => k_is)
    (case qqgl9 => k_is)
    (case qqg10 => k_is)
    (case qqg11 => k_is)
    (case qqg12 => k_is)
    (case qqg13 => k_is)
    (case qqgl13 => k_is)
    (case qqqa0 => k_is)
    (case qqql0 => k_is)
    (case qqqs0 => rfl)
    (case qqxa0 => k_is)
    (case qqxb0 => k_is)
    (case qqxt0 => k_is)
    (case qqxd0 => k_is)
    (case qqxa1 => k_is)
    (case qqxb1 => k_is)
    (case qqxt1 => k_is)
    (case qqxd1 => k_is)
    (case qqxa2 => k_is)
    (case qqxb2 => k_is)
    (case qqxt2 => k_is)
    (case qqxd2 => k_is)
    (case qqxk0 => k_is)
    (case qqxx0 => k_exc)
    (case qqxk1 => k_is)
    (case qqxx1 => k_exc)
    (case qqxk2 => k_is)
    (case qqxx2 => k_exc)
    (case qqn0 => k_is)
    (case qqn1 => k_is)
    (case qqn2 => k_is)
    (case qqn3 => k_is)
    (case qqz0 => k_is)
    (case qqz1 => k_is)
    (case qqz2 => k_is)
    (case qqz3 => k_is)
    (case qqz4 => k_is)
    (case qqz5 => k_is)
    (case qqz6 => k_is)
    (case qqz7 => k_is)
    (case qqz8 => k_is)
    (case qqz9 => k_is)
    (case qqz10 => k_is)
    (case qqz11 => k_is)
    (case qqz12 => k_is)
    (case qqz13 => k_is)
    (case qqz14 => k_is)
    (case qqz15 => k_is)
    (case qqz16 => k_is)
    (case qqz17 => k_is)

