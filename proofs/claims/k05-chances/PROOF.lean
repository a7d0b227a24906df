import PyProof.Rows.All
import Wide.All
import OpenK.AllK
import Wide.FinOn
import HandS.ForMost
import HandS.ForExc
import HandS.Flow
import HandS.TupAny
import HandS.AnyAll
import HandS.Lambda
import HandS.GenList
import KE.KeyNested
import HandS.IsInst
import HandS.TupMul
import HandS.TupLe
import HandS.Conv
import HandS.Iter
import HandS.Zip
import KE.GoesEnum
import KE.KDictWalk
import HandS.ExcOwn
import HandS.Defaults
import HandS.CallRecv
import HandS.TupLen
import KE.KDictKeyed
import HandS.CallSlots
import HandS.HeadHook4
import HandS.HeadWalk
import HandS.Head0
import HandS.Head1
import HandS.Head2
import HandS.HeadEnd
import HandS.HeadHook1
import HandS.HeadHook2
import KE.KStateDown
import PySem.Challenge.RW_lostlines_k05_whole_chances
set_option Elab.async false
set_option linter.all false
set_option maxRecDepth 100000
/-! Layer Z, part 0: pure data, how the heap bears it, the readings. -/
namespace Zl
open PySem PySem.Spec PyProof.Rows L2

/-- data: what a Python value is, without addresses. scr: the law's script, a list that is read by places alone; loc: the n-th object of the run's own store (a list, a dict, an instance that may still change); fn: what a name of the module holds -/
inductive D where
  | non
  | bl (b : Bool)
  | int (i : Int)
  | str (x : Str)
  | tup (ds : List D)
  | lst (ds : List D)
  | dct (ks vs : List D)
  | ins (c : Str) (ns : List Str) (vs : List D)
  | loc (n : Nat)
  | fn (x : Str)
  | scr (ds : List D)

mutual
def D.beq : D → D → Bool
  | .non, .non => true
  | .bl a, .bl b => a == b
  | .int a, .int b => decide (a = b)
  | .str a, .str b => decide (a = b)
  | .tup a, .tup b => D.beqs a b
  | .lst a, .lst b => D.beqs a b
  | .dct a b, .dct c d => D.beqs a c && D.beqs b d
  | .scr a, .scr b => D.beqs a b
  | .ins a b c, .ins d e f => decide (a = d) && decide (b = e) && D.beqs c f
  | .loc a, .loc b => decide (a = b)
  | .fn a, .fn b => decide (a = b)
  | _, _ => false
def D.beqs : List D → List D → Bool
  | [], [] => true
  | a :: as, b :: bs => D.beq a b && D.beqs as bs
  | _, _ => false
end
mutual
/-- no object of the store within -/
def D.pure : D → Bool
  | .tup ds => D.pures ds
  | .lst ds => D.pures ds
  | .dct ks vs => D.pures ks && D.pures vs
  | .ins _ _ vs => D.pures vs
  | .scr ds => D.pures ds
  | .loc _ => false
  | _ => true
def D.pures : List D → Bool
  | [] => true
  | d :: ds => D.pure d && D.pures ds
end
mutual
/-- as a key of a dict -/
def D.key : D → Option NestedKey
  | .non => some .none
  | .bl b => some (.num (if b = true then 1 else 0))
  | .int i => some (.num i)
  | .str x => some (.text x)
  | .tup ds => (D.keys ds).map .tup
  | _ => none
def D.keys : List D → Option (List NestedKey)
  | [] => some []
  | d :: ds => match D.key d, D.keys ds with
    | some k, some ks => some (k :: ks)
    | _, _ => none
end
mutual
/-- as data that == compares -/
def D.py : D → Option PyData
  | .non => some .none
  | .bl b => some (.bool b)
  | .int i => some (.int i)
  | .str x => some (.str x)
  | .tup ds => (D.pys ds).map .tuple
  | .lst ds => (D.pys ds).map .list
  | _ => none
def D.pys : List D → Option (List PyData)
  | [] => some []
  | d :: ds => match D.py d, D.pys ds with
    | some k, some ks => some (k :: ks)
    | _, _ => none
end

/-- a dict's keys: unlike, tuples of small depth -/
def DKeys (nk : List NestedKey) : Prop := nk.Nodup ∧ ∀ n ∈ nk, (∃ l, n = .tup l) ∧ n.depth ≤ 8
/-- an entry of a dict: the key's hash, the key, the value -/
abbrev Ent := Int × V × V
def rawD (a : Addr) (ep : Nat) (es : List Ent) : Heap → Prop := fun h => (a == sysModules) = false ∧ es.length ≤ sizeLine ∧
  ∃ o ds, h.get? a = some o ∧ o.ExactDict ∧ o.data = .dict ds ep ∧ Paired (fun (p : Ent) (e : DictEntry) => e.hash = p.1 ∧ RelV p.2.1 e.key ∧ RelV p.2.2 e.val) es ds.toList

/-- a world: what is known for ever (G), what others own (F), where the store's objects stand (ix), the module's names -/
structure Bs where
  mg : Str → Option Value
  K : PySem.W.Frag
structure Md where
  b : Bs
  T : List Addr
  TL : List (Addr × Str)
structure Wd where
  w : World
  md : Md
  G : Hp
  F : Hp
  ix : List Addr
abbrev Wd.b (c : Wd) : Bs := c.md.b
abbrev Wd.mg (c : Wd) : Str → Option Value := c.md.b.mg
abbrev Wd.K (c : Wd) : PySem.W.Frag := c.md.b.K
theorem mgo {c : Wd} {m : Md} (h : c.md = m) : c.b = m.b := congrArg Md.b h
abbrev Wd.T (c : Wd) : List Addr := c.md.T
abbrev Wd.TL (c : Wd) : List (Addr × Str) := c.md.TL

mutual
inductive RV (c : Wd) : V → D → Prop
  | non : RV c .non .non
  | bl (b : Bool) : RV c (.bl b) (.bl b)
  | int (i : Int) : RV c (.int i) (.int i)
  | str (x : Str) : RV c (.str x) (.str x)
  | tup {a : Addr} {vs : List V} {ds : List D} : c.G a = some (.tup vs) → RVs c vs ds → RV c (.ref a) (.tup ds)
  | lst {a : Addr} {vs : List V} {ds : List D} : c.G a = some (.lst vs) → RVs c vs ds → RV c (.ref a) (.lst ds)
  | dct {a : Addr} {ep : Nat} {es : List Ent} {ks vs : List D} {nk : List NestedKey} : c.G a = some (.ext (rawD a ep es)) → RVs c (es.map (·.2.1)) ks → RVs c (es.map (·.2.2)) vs →
      D.keys ks = some nk → es.map (·.1) = nk.map (NestedKey.hash c.w) → DKeys nk → RV c (.ref a) (.dct ks vs)
  | ins {a C dx : Addr} {cn : Str} {fs : List (Str × V)} {ds : List D} : c.G a = some (.ins C dx fs) → c.mg cn = some (.ref C) → RVs c (fs.map (·.2)) ds → RV c (.ref a) (.ins cn (fs.map (·.1)) ds)
  | loc {a : Addr} {n : Nat} : c.ix[n]? = some a → RV c (.ref a) (.loc n)
  | fn {a : Addr} {x : Str} : c.mg x = some (.ref a) → RV c (.ref a) (.fn x)
  | scr {a : Addr} {vs : List V} {ds : List D} : SqL c.K c.G a vs → RVs c vs ds → RV c (.ref a) (.scr ds)
inductive RVs (c : Wd) : List V → List D → Prop
  | nil : RVs c [] []
  | cons {v : V} {d : D} {vs : List V} {ds : List D} : RV c v d → RVs c vs ds → RVs c (v :: vs) (d :: ds)
end

def Ex (H H' : Hp) : Prop := ∀ a o, H a = some o → H' a = some o
theorem Ex.sqL {K : PySem.W.Frag} {H H' : Hp} (e : Ex H H') {a : Addr} {vs : List V} (h : SqL K H a vs) : SqL K H' a vs := by
  rcases h with (h | ⟨o, h⟩) | h
  · exact .inl (.inl (e _ _ h))
  · exact .inl (.inr ⟨o, e _ _ h⟩)
  · exact .inr h
theorem Ex.sqT {K : PySem.W.Frag} {H H' : Hp} (e : Ex H H') {a : Addr} {vs : List V} (h : SqT K H a vs) : SqT K H' a vs := by
  rcases h with (h | ⟨o, h⟩) | h
  · exact .inl (.inl (e _ _ h))
  · exact .inl (.inr ⟨o, e _ _ h⟩)
  · exact .inr h
theorem Ex.refl (H : Hp) : Ex H H := fun _ _ h => h
theorem Ex.trans {H H1 H2 : Hp} (a : Ex H H1) (b : Ex H1 H2) : Ex H H2 := fun x o h => b x o (a x o h)
theorem Ex.free {H H' : Hp} (e : Ex H H') {a : Addr} (h : H' a = none) : H a = none := by
  cases q : H a with
  | none => rfl
  | some o => rw [e a o q] at h; cases h
theorem Ex.new {H : Hp} {p : Addr} {o : HO} (h : H p = none) : Ex H (upd H p o) := fun a u e => by
  rw [upd_ne (ne_of_none e h)]
  exact e
theorem Ex.upd {H H' : Hp} {p : Addr} {o : HO} (e : Ex H H') (h : H p = none) : Ex H (upd H' p o) := fun a u q => by
  rw [upd_ne (ne_of_none q h)]
  exact e a u q

/-- a later world -/
structure Wd.le (c c' : Wd) : Prop where
  w : c'.w = c.w
  md : c'.md = c.md
  G : Ex c.G c'.G
  F : c'.F = c.F
  ix : c.ix <+: c'.ix
theorem Wd.le.b {c c' : Wd} (h : c.le c') : c'.b = c.b := congrArg Md.b h.md
theorem Wd.le.mg {c c' : Wd} (h : c.le c') : c'.mg = c.mg := congrArg Bs.mg h.b
theorem Wd.le.K {c c' : Wd} (h : c.le c') : c'.K = c.K := congrArg Bs.K h.b
theorem Wd.le.refl (c : Wd) : c.le c := ⟨rfl, rfl, Ex.refl _, rfl, List.prefix_refl _⟩
theorem Wd.le.trans {a b c : Wd} (x : a.le b) (y : b.le c) : a.le c := ⟨y.w.trans x.w, y.md.trans x.md, x.G.trans y.G, y.F.trans x.F, x.ix.trans y.ix⟩
theorem prefix_get {α : Type} {l l' : List α} (h : l <+: l') {n : Nat} {a : α} (e : l[n]? = some a) : l'[n]? = some a := by
  obtain ⟨t, rfl⟩ := h
  rw [List.getElem?_append_left (List.getElem?_eq_some_iff.mp e).1]
  exact e
mutual
theorem RV.mono {c c' : Wd} (h : c.le c') : ∀ {v : V} {d : D}, RV c v d → RV c' v d
  | _, _, .non => .non
  | _, _, .bl b => .bl b
  | _, _, .int i => .int i
  | _, _, .str x => .str x
  | _, _, .tup a b => .tup (h.G _ _ a) (RVs.mono h b)
  | _, _, .lst a b => .lst (h.G _ _ a) (RVs.mono h b)
  | _, _, .dct a b d e f g => .dct (h.G _ _ a) (RVs.mono h b) (RVs.mono h d) e (by rw [h.w]; exact f) g
  | _, _, .ins a b d => .ins (h.G _ _ a) (by rw [h.mg]; exact b) (RVs.mono h d)
  | _, _, .loc a => .loc (prefix_get h.ix a)
  | _, _, .fn a => .fn (by rw [h.mg]; exact a)
  | _, _, .scr a b => .scr (by rw [h.K]; exact h.G.sqL a) (RVs.mono h b)
theorem RVs.mono {c c' : Wd} (h : c.le c') : ∀ {vs : List V} {ds : List D}, RVs c vs ds → RVs c' vs ds
  | _, _, .nil => .nil
  | _, _, .cons a b => .cons (RV.mono h a) (RVs.mono h b)
end
/-- a later world, whatever others own -/
structure Wd.leR (c c' : Wd) : Prop where
  w : c'.w = c.w
  md : c'.md = c.md
  G : Ex c.G c'.G
  ix : c.ix <+: c'.ix
theorem Wd.leR.mg {c c' : Wd} (h : c.leR c') : c'.mg = c.mg := congrArg (fun m => Bs.mg (Md.b m)) h.md
theorem Wd.leR.K {c c' : Wd} (h : c.leR c') : c'.K = c.K := congrArg (fun m => Bs.K (Md.b m)) h.md
theorem Wd.le.R {c c' : Wd} (h : c.le c') : c.leR c' := ⟨h.w, h.md, h.G, h.ix⟩
theorem Wd.leR.refl (c : Wd) : c.leR c := ⟨rfl, rfl, Ex.refl _, List.prefix_refl _⟩
theorem Wd.leR.trans {a b c : Wd} (x : a.leR b) (y : b.leR c) : a.leR c := ⟨y.w.trans x.w, y.md.trans x.md, x.G.trans y.G, x.ix.trans y.ix⟩
theorem Wd.leR.toF {a b : Wd} {F : Hp} (x : a.leR b) : a.leR { b with F := F } := ⟨x.w, x.md, x.G, x.ix⟩
theorem Wd.leR.ofF {a b : Wd} {F : Hp} (x : ({ a with F := F } : Wd).leR b) : a.leR b := ⟨x.w, x.md, x.G, x.ix⟩
mutual
theorem RV.monoR {c c' : Wd} (h : c.leR c') : ∀ {v : V} {d : D}, RV c v d → RV c' v d
  | _, _, .non => .non
  | _, _, .bl b => .bl b
  | _, _, .int i => .int i
  | _, _, .str x => .str x
  | _, _, .tup a b => .tup (h.G _ _ a) (RVs.monoR h b)
  | _, _, .lst a b => .lst (h.G _ _ a) (RVs.monoR h b)
  | _, _, .dct a b d e f g => .dct (h.G _ _ a) (RVs.monoR h b) (RVs.monoR h d) e (by rw [h.w]; exact f) g
  | _, _, .ins a b d => .ins (h.G _ _ a) (by rw [h.mg]; exact b) (RVs.monoR h d)
  | _, _, .loc a => .loc (prefix_get h.ix a)
  | _, _, .fn a => .fn (by rw [h.mg]; exact a)
  | _, _, .scr a b => .scr (by rw [h.K]; exact h.G.sqL a) (RVs.monoR h b)
theorem RVs.monoR {c c' : Wd} (h : c.leR c') : ∀ {vs : List V} {ds : List D}, RVs c vs ds → RVs c' vs ds
  | _, _, .nil => .nil
  | _, _, .cons a b => .cons (RV.monoR h a) (RVs.monoR h b)
end
/-- pure data leans on what is known alone -/
structure Wd.leG (c c' : Wd) : Prop where
  w : c'.w = c.w
  b : c'.b = c.b
  G : Ex c.G c'.G
theorem Wd.leG.mg {c c' : Wd} (h : c.leG c') : c'.mg = c.mg := congrArg Bs.mg h.b
theorem Wd.leG.K {c c' : Wd} (h : c.leG c') : c'.K = c.K := congrArg Bs.K h.b
mutual
theorem RV.monoG {c c' : Wd} (h : c.leG c') : ∀ {v : V} {d : D}, RV c v d → D.pure d = true → RV c' v d
  | _, _, .non, _ => .non
  | _, _, .bl b, _ => .bl b
  | _, _, .int i, _ => .int i
  | _, _, .str x, _ => .str x
  | _, _, .tup a b, p => .tup (h.G _ _ a) (RVs.monoG h b (by simpa [D.pure] using p))
  | _, _, .lst a b, p => .lst (h.G _ _ a) (RVs.monoG h b (by simpa [D.pure] using p))
  | _, _, .dct a b d e f g, p => .dct (h.G _ _ a) (RVs.monoG h b (by simp [D.pure] at p; exact p.1)) (RVs.monoG h d (by simp [D.pure] at p; exact p.2)) e (by rw [h.w]; exact f) g
  | _, _, .ins a b d, p => .ins (h.G _ _ a) (by rw [h.mg]; exact b) (RVs.monoG h d (by simpa [D.pure] using p))
  | _, _, .loc a, p => by simp [D.pure] at p
  | _, _, .fn a, _ => .fn (by rw [h.mg]; exact a)
  | _, _, .scr a b, p => .scr (by rw [h.K]; exact h.G.sqL a) (RVs.monoG h b (by simpa [D.pure] using p))
theorem RVs.monoG {c c' : Wd} (h : c.leG c') : ∀ {vs : List V} {ds : List D}, RVs c vs ds → D.pures ds = true → RVs c' vs ds
  | _, _, .nil, _ => .nil
  | _, _, .cons a b, p => .cons (RV.monoG h a (by simp [D.pures] at p; exact p.1)) (RVs.monoG h b (by simp [D.pures] at p; exact p.2))
end
theorem RVs.length {c : Wd} : ∀ {vs : List V} {ds : List D}, RVs c vs ds → vs.length = ds.length
  | _, _, .nil => rfl
  | _, _, .cons _ b => by simp [RVs.length b]
theorem RVs.get {c : Wd} : ∀ {vs : List V} {ds : List D} {i : Nat} {d : D}, RVs c vs ds → ds[i]? = some d → ∃ v, vs[i]? = some v ∧ RV c v d
  | _, _, _, _, .nil, e => by simp at e
  | _, _, 0, _, .cons a _, e => by simp at e; subst e; exact ⟨_, rfl, a⟩
  | _, _, i + 1, _, .cons _ b, e => RVs.get (i := i) b (by simpa using e)
theorem RVs.getV {c : Wd} : ∀ {vs : List V} {ds : List D} {i : Nat} {v : V}, RVs c vs ds → vs[i]? = some v → ∃ d, ds[i]? = some d ∧ RV c v d
  | _, _, _, _, .nil, e => by simp at e
  | _, _, 0, _, .cons a _, e => by simp at e; subst e; exact ⟨_, rfl, a⟩
  | _, _, i + 1, _, .cons _ b, e => RVs.getV (i := i) b (by simpa using e)
theorem RVs.append {c : Wd} : ∀ {vs us : List V} {ds es : List D}, RVs c vs ds → RVs c us es → RVs c (vs ++ us) (ds ++ es)
  | _, _, _, _, .nil, s => s
  | _, _, _, _, .cons a b, s => .cons a (RVs.append b s)
theorem RVs.drop {c : Wd} : ∀ {vs : List V} {ds : List D} (n : Nat), RVs c vs ds → RVs c (vs.drop n) (ds.drop n)
  | _, _, 0, h => h
  | _, _, _ + 1, .nil => .nil
  | _, _, n + 1, .cons _ b => RVs.drop n b
theorem RVs.take {c : Wd} : ∀ {vs : List V} {ds : List D} (n : Nat), RVs c vs ds → RVs c (vs.take n) (ds.take n)
  | _, _, 0, _ => .nil
  | _, _, _ + 1, .nil => .nil
  | _, _, n + 1, .cons a b => .cons a (RVs.take n b)
theorem RVs.set {c : Wd} {v : V} {d : D} (r : RV c v d) : ∀ {vs : List V} {ds : List D} (i : Nat), RVs c vs ds → RVs c (vs.set i v) (ds.set i d)
  | _, _, _, .nil => .nil
  | _, _, 0, .cons _ b => .cons r b
  | _, _, i + 1, .cons a b => .cons a (RVs.set r i b)
theorem RVs.ints {c : Wd} : ∀ ns : List Int, RVs c (ns.map V.int) (ns.map D.int)
  | [] => .nil
  | n :: r => .cons (.int n) (RVs.ints r)

/-- what stands at a live object of the store -/
def Live (c : Wd) (H : Hp) (a : Addr) : D → Prop
  | .lst ds => ∃ vs, H a = some (.lst vs) ∧ RVs c vs ds
  | .dct ks vs => ∃ ep es nk, H a = some (.ext (rawD a ep es)) ∧ RVs c (es.map (·.2.1)) ks ∧ RVs c (es.map (·.2.2)) vs ∧ D.keys ks = some nk ∧ es.map (·.1) = nk.map (NestedKey.hash c.w) ∧ DKeys nk
  | .ins cn ns ds => ∃ C dx fs, H a = some (.ins C dx fs) ∧ c.mg cn = some (.ref C) ∧ fs.map (·.1) = ns ∧ RVs c (fs.map (·.2)) ds
  | _ => False
theorem Live.mono {c c' : Wd} {H : Hp} {a : Addr} {d : D} (h : c.le c') (l : Live c H a d) : Live c' H a d := by
  cases d with
  | lst ds => obtain ⟨vs, e, r⟩ := l; exact ⟨vs, e, r.mono h⟩
  | dct ks vs => obtain ⟨ep, es, nk, e, r1, r2, r3, r4, r5⟩ := l; exact ⟨ep, es, nk, e, r1.mono h, r2.mono h, r3, by rw [h.w]; exact r4, r5⟩
  | ins cn ns ds => obtain ⟨C, dx, fs, e, e2, e3, r⟩ := l; exact ⟨C, dx, fs, e, by rw [h.mg]; exact e2, e3, r.mono h⟩
  | _ => exact l.elim
theorem Live.monoR {c c' : Wd} {H : Hp} {a : Addr} {d : D} (h : c.leR c') (l : Live c H a d) : Live c' H a d := by
  cases d with
  | lst ds => obtain ⟨vs, e, r⟩ := l; exact ⟨vs, e, r.monoR h⟩
  | dct ks vs => obtain ⟨ep, es, nk, e, r1, r2, r3, r4, r5⟩ := l; exact ⟨ep, es, nk, e, r1.monoR h, r2.monoR h, r3, by rw [h.w]; exact r4, r5⟩
  | ins cn ns ds => obtain ⟨C, dx, fs, e, e2, e3, r⟩ := l; exact ⟨C, dx, fs, e, by rw [h.mg]; exact e2, e3, r.monoR h⟩
  | _ => exact l.elim
theorem Live.some {c : Wd} {H : Hp} {a : Addr} {d : D} (l : Live c H a d) : ∃ o, H a = some o := by
  cases d with
  | lst ds => obtain ⟨vs, e, r⟩ := l; exact ⟨_, e⟩
  | dct ks vs => obtain ⟨ep, es, nk, e, _⟩ := l; exact ⟨_, e⟩
  | ins cn ns ds => obtain ⟨C, dx, fs, e, _⟩ := l; exact ⟨_, e⟩
  | _ => exact l.elim
theorem Live.at {c : Wd} {H H' : Hp} {a : Addr} {d : D} (l : Live c H a d) (k : ∀ o, H a = .some o → H' a = .some o) : Live c H' a d := by
  cases d with
  | lst ds => obtain ⟨vs, e, r⟩ := l; exact ⟨vs, k _ e, r⟩
  | dct ks vs => obtain ⟨ep, es, nk, e, r⟩ := l; exact ⟨ep, es, nk, k _ e, r⟩
  | ins cn ns ds => obtain ⟨C, dx, fs, e, r⟩ := l; exact ⟨C, dx, fs, k _ e, r⟩
  | _ => exact l.elim

abbrev Vars := List (Option D)
/-- the store: live objects (true), those that have been known for ever from some moment on (false) -/
abbrev Sto := List (Bool × D)
/-- the heap bears the world and the store -/
structure RelS (c : Wd) (st : Sto) (H : Hp) : Prop where
  ext : Ex c.G H
  fr : Ex c.F H
  dj : ∀ a o, c.G a = some o → c.F a = none
  len : c.ix.length = st.length
  nd : c.ix.Nodup
  live : ∀ (n : Nat) (d : D), st[n]? = some (true, d) → ∃ a, c.ix[n]? = some a ∧ c.G a = none ∧ c.F a = none ∧ Live c H a d
  dead : ∀ (n : Nat) (d : D), st[n]? = some (false, d) → ∃ a o, c.ix[n]? = some a ∧ c.G a = some o ∧ RV c (.ref a) d
  tb : ∀ P ∈ c.T, c.G P = none ∧ c.F P = none ∧ P ∉ c.ix ∧ ∃ ps : Array Value, H P = some (.tbl ps) ∧ TriplesOk ps.toList
  tl : ∀ p ∈ c.TL, c.G p.1 = none ∧ c.F p.1 = none ∧ p.1 ∉ c.ix ∧ ∃ ps : Array Value, H p.1 = some (.tbl ps) ∧ TriplesOk ps.toList ∧ ∀ pos cv, codeAmong pos ps.toList = some cv → ∃ a, cv = .ref a ∧ c.G a = some (LamX.CodeO a p.2)
  tdj : ∀ p ∈ c.TL, p.1 ∉ c.T
theorem RelS.tr {c : Wd} {st : Sto} {H : Hp} (r : RelS c st H) : ∀ a ∈ c.ix, ∃ o, H a = some o := fun a ha => by
  obtain ⟨n, hn, e⟩ := List.getElem_of_mem ha
  have hn' : n < st.length := by rw [← r.len]; exact hn
  have e' : c.ix[n]? = some a := by rw [List.getElem?_eq_getElem hn, e]
  obtain ⟨k, d, q⟩ : ∃ k d, st[n] = (k, d) := ⟨_, _, rfl⟩
  cases k with
  | false =>
    obtain ⟨b, o, e1, e2, _⟩ := r.dead n d (by rw [List.getElem?_eq_getElem hn', q])
    rw [e'] at e1; cases e1
    exact ⟨o, r.ext _ _ e2⟩
  | true =>
    obtain ⟨b, e1, _, _, l⟩ := r.live n d (by rw [List.getElem?_eq_getElem hn', q])
    rw [e'] at e1; cases e1
    exact l.some
/-- what others own is none of the store's -/
theorem RelS.notF {c : Wd} {st : Sto} {H : Hp} (r : RelS c st H) {a : Addr} {o : HO} (h : c.F a = some o) : a ∉ c.ix := fun ha => by
  obtain ⟨n, hn, e⟩ := List.getElem_of_mem ha
  have hn' : n < st.length := by rw [← r.len]; exact hn
  have e' : c.ix[n]? = some a := by rw [List.getElem?_eq_getElem hn, e]
  obtain ⟨k, d, q⟩ : ∃ k d, st[n] = (k, d) := ⟨_, _, rfl⟩
  cases k with
  | false =>
    obtain ⟨b, u, e1, e2, _⟩ := r.dead n d (by rw [List.getElem?_eq_getElem hn', q])
    rw [e'] at e1; cases e1
    rw [r.dj _ _ e2] at h; cases h
  | true =>
    obtain ⟨b, e1, _, e3, l⟩ := r.live n d (by rw [List.getElem?_eq_getElem hn', q])
    rw [e'] at e1; cases e1
    rw [e3] at h; cases h
structure Rel (c : Wd) (vars : Vars) (st : Sto) (σ : L2.St) (H : Hp) : Prop extends RelS c st H where
  vlen : vars.length ≤ σ.length
  vars : ∀ (i : Nat) (d : D), vars[i]? = some (some d) → ∃ v, σ[i]? = some (some v) ∧ RV c v d

/-- an exception: its class by name, its fields -/
structure Exn where
  cls : Str
  ns : List Str
  vs : List D
/-- how it lies -/
def XR (c : Wd) (x : Exn) (cls : Value) (dd : Option Addr) : Prop := ∃ C, cls = .ref C ∧ c.mg x.cls = some (.ref C) ∧
  ((x.ns = [] ∧ x.vs = []) ∨ ∃ d fs, dd = some d ∧ c.G d = some (.xd fs) ∧ fs.map (·.1) = x.ns ∧ RVs c (fs.map (·.2)) x.vs)
theorem XR.mono {c c' : Wd} (h : c.le c') {x : Exn} {cls : Value} {dd : Option Addr} (r : XR c x cls dd) : XR c' x cls dd := by
  obtain ⟨C, e, m, r⟩ := r
  refine ⟨C, e, by rw [h.mg]; exact m, ?_⟩
  rcases r with r | ⟨d, fs, e1, e2, e3, r⟩
  · exact .inl r
  · exact .inr ⟨d, fs, e1, h.G _ _ e2, e3, r.mono h⟩

/-- an expression's outcome -/
inductive R where
  | ok (d : D) (st : Sto)
  | rz (x : Exn) (st : Sto)
  | stuck
/-- a list of expressions' -/
inductive Rl where
  | ok (ds : List D) (st : Sto)
  | rz (x : Exn) (st : Sto)
  | stuck
/-- a statement's -/
inductive Rs where
  | nx (vars : Vars) (st : Sto)
  | ret (d : D) (st : Sto)
  | bk (vars : Vars) (st : Sto)
  | ct (vars : Vars) (st : Sto)
  | rz (x : Exn) (vars : Vars) (st : Sto)
  | stuck
abbrev ZE := Vars → Sto → R
abbrev ZL := Vars → Sto → Rl
abbrev ZS := Vars → Sto → Rs

def Rz (W : WX) (c : Wd) (vars : Vars) (σ : L2.St) (x : Exn) (st : Sto) : Prop := ∀ c' H' cls dd, c.le c' → Rel c' vars st σ H' → XR c' x cls dd → W cls dd σ H'
def PostE (W : WX) (c : Wd) (vars : Vars) (σ : L2.St) (Q : VK) : R → Prop
  | .ok d st => ∀ v c' H', c.le c' → Rel c' vars st σ H' → RV c' v d → Q v H'
  | .rz x st => Rz W c vars σ x st
  | .stuck => False
def PostL (W : WX) (c : Wd) (vars : Vars) (σ : L2.St) (Q : List V → Hp → Prop) : Rl → Prop
  | .ok ds st => ∀ vs c' H', c.le c' → Rel c' vars st σ H' → RVs c' vs ds → Q vs H'
  | .rz x st => Rz W c vars σ x st
  | .stuck => False
def PostT (W : WX) (c : Wd) (vars : Vars) (σ : L2.St) (Q : Bool → Hp → Prop) : R → Prop
  | .ok (.bl b) st => ∀ c' H', c.le c' → Rel c' vars st σ H' → Q b H'
  | .rz x st => Rz W c vars σ x st
  | _ => False
def PostS (W : WX) (c : Wd) (D : Ends) : Rs → Prop
  | .nx vars st => ∀ c' σ' H', c.le c' → Rel c' vars st σ' H' → D.nx σ' H'
  | .ret d st => ∀ v c' σ' H', c.le c' → Rel c' [] st σ' H' → RV c' v d → D.rt v H'
  | .bk vars st => ∀ c' σ' H', c.le c' → Rel c' vars st σ' H' → D.bk σ' H'
  | .ct vars st => ∀ c' σ' H', c.le c' → Rel c' vars st σ' H' → D.ct σ' H'
  | .rz x vars st => ∀ c' σ' H' cls dd, c.le c' → Rel c' vars st σ' H' → XR c' x cls dd → W cls dd σ' H'
  | .stuck => False
/-- the readings: w, mg are the run's -/
def zE (w : World) (mg : Md) (W : WX) (f : ZE) : TE := fun σ H Q => ∃ c vars st, c.w = w ∧ c.md = mg ∧ Rel c vars st σ H ∧ PostE W c vars σ Q (f vars st)
def zT (w : World) (mg : Md) (W : WX) (f : ZE) : TT := fun σ H Q => ∃ c vars st, c.w = w ∧ c.md = mg ∧ Rel c vars st σ H ∧ PostT W c vars σ Q (f vars st)
def zA (w : World) (mg : Md) (W : WX) (f : ZL) : TA := fun σ H Q => ∃ c vars st, c.w = w ∧ c.md = mg ∧ Rel c vars st σ H ∧ PostL W c vars σ Q (f vars st)
def zS (w : World) (mg : Md) (W : WX) (f : ZS) : TS := fun D σ H => ∃ c vars st, c.w = w ∧ c.md = mg ∧ Rel c vars st σ H ∧ PostS W c D (f vars st)

/-- what is wished of an exception; the tables that grow -/
structure WZ where
  x : WX
  T : List Addr
  TL : List (Addr × Str)
/-- no exception may leave it -/
abbrev WZ.q (W : WZ) : WZ := { W with x := fun _ _ _ _ => False }
abbrev Cx.bs (X : Cx) : Bs := ⟨X.mg, X.K⟩
abbrev Cx.md (X : Cx) (W : WZ) : Md := ⟨Cx.bs X, W.T, W.TL⟩
abbrev DE (X : Cx) (W : WZ) (e : Expr) (f : ZE) : Prop := PE X e (zE X.w (Cx.md X W) W.x f)
abbrev DT (X : Cx) (W : WZ) (e : Expr) (f : ZE) : Prop := PT X e (zT X.w (Cx.md X W) W.x f)
abbrev DA (X : Cx) (W : WZ) (es : List Expr) (f : ZL) : Prop := PA X es (zA X.w (Cx.md X W) W.x f)
abbrev DS (X : Cx) (W : WZ) (s : Stmt) (f : ZS) : Prop := PS X s (zS X.w (Cx.md X W) W.x f)
abbrev DSs (X : Cx) (W : WZ) (s : List Stmt) (f : ZS) : Prop := PSs X s (zS X.w (Cx.md X W) W.x f)

theorem _root_.L2.PE.imp {X : Cx} {e : Expr} {t t' : TE} (h : PE X e t) (i : ∀ σ H Q, t' σ H Q → t σ H Q) : PE X e t' := ⟨fun pins s σ H Q I q => h.run pins s σ H Q I (i σ H Q q)⟩
theorem _root_.L2.PT.imp {X : Cx} {e : Expr} {t t' : TT} (h : PT X e t) (i : ∀ σ H Q, t' σ H Q → t σ H Q) : PT X e t' := ⟨fun pins s σ H Q I q => h.run pins s σ H Q I (i σ H Q q)⟩
theorem _root_.L2.PW.imp {X : Cx} {e : Expr} {t t' : TT} (h : PW X e t) (i : ∀ σ H Q, t' σ H Q → t σ H Q) : PW X e t' := ⟨fun wh pins s σ H Q I q => h.run wh pins s σ H Q I (i σ H Q q)⟩
theorem _root_.L2.PA.imp {X : Cx} {e : List Expr} {t t' : TA} (h : PA X e t) (i : ∀ σ H Q, t' σ H Q → t σ H Q) : PA X e t' := ⟨fun pos pins s σ H Q I q => h.run pos pins s σ H Q I (i σ H Q q)⟩
theorem _root_.L2.PS.imp {X : Cx} {e : Stmt} {t t' : TS} (h : PS X e t) (i : ∀ D σ H, t' D σ H → t D σ H) : PS X e t' := ⟨fun pins s σ H D I q => h.run pins s σ H D I (i D σ H q)⟩
theorem _root_.L2.PSs.imp {X : Cx} {e : List Stmt} {t t' : TS} (h : PSs X e t) (i : ∀ D σ H, t' D σ H → t D σ H) : PSs X e t' := ⟨fun pins s σ H D I q => h.run pins s σ H D I (i D σ H q)⟩
end Zl

set_option Elab.async false
set_option linter.all false
set_option maxRecDepth 100000
set_option maxHeartbeats 1000000
/-! Layer Z, part 1: outcomes in a row; names, constants, displays, operators. -/
namespace Zl
open PySem PySem.Spec PyProof.Rows L2

def R.bind : R → (D → Sto → R) → R
  | .ok d st, k => k d st
  | .rz x st, _ => .rz x st
  | .stuck, _ => .stuck
def R.bindL : R → (D → Sto → Rl) → Rl
  | .ok d st, k => k d st
  | .rz x st, _ => .rz x st
  | .stuck, _ => .stuck
def Rl.bind : Rl → (List D → Sto → R) → R
  | .ok d st, k => k d st
  | .rz x st, _ => .rz x st
  | .stuck, _ => .stuck
def Rl.bindL : Rl → (List D → Sto → Rl) → Rl
  | .ok d st, k => k d st
  | .rz x st, _ => .rz x st
  | .stuck, _ => .stuck
def R.bindS (vars : Vars) : R → (D → Sto → Rs) → Rs
  | .ok d st, k => k d st
  | .rz x st, _ => .rz x vars st
  | .stuck, _ => .stuck
def Rs.bind : Rs → (Vars → Sto → Rs) → Rs
  | .nx vars st, k => k vars st
  | r, _ => r

section
variable {W : WX} {c c' : Wd} {vars : Vars} {st : Sto} {σ : L2.St} {H : Hp}
theorem Rz.mono {x : Exn} (h : c.le c') (p : Rz W c vars σ x st) : Rz W c' vars σ x st := fun c2 H2 cls dd l r q => p c2 H2 cls dd (h.trans l) r q
theorem PostE.mono {Q : VK} {r : R} (h : c.le c') (p : PostE W c vars σ Q r) : PostE W c' vars σ Q r := by
  cases r with
  | ok d st => exact fun v c2 H2 l r q => p v c2 H2 (h.trans l) r q
  | rz x st => exact Rz.mono h p
  | stuck => exact p
theorem PostL.mono {Q : List V → Hp → Prop} {r : Rl} (h : c.le c') (p : PostL W c vars σ Q r) : PostL W c' vars σ Q r := by
  cases r with
  | ok d st => exact fun v c2 H2 l r q => p v c2 H2 (h.trans l) r q
  | rz x st => exact Rz.mono h p
  | stuck => exact p
theorem PostS.mono {E : Ends} {r : Rs} (h : c.le c') (p : PostS W c E r) : PostS W c' E r := by
  cases r with
  | nx vars st => exact fun c2 s2 H2 l r => p c2 s2 H2 (h.trans l) r
  | ret d st => exact fun v c2 s2 H2 l r q => p v c2 s2 H2 (h.trans l) r q
  | bk vars st => exact fun c2 s2 H2 l r => p c2 s2 H2 (h.trans l) r
  | ct vars st => exact fun c2 s2 H2 l r => p c2 s2 H2 (h.trans l) r
  | rz x vars st => exact fun c2 s2 H2 cls dd l r q => p c2 s2 H2 cls dd (h.trans l) r q
  | stuck => exact p
theorem PostE.bind {Q : VK} {r : R} {k : D → Sto → R} (p : PostE W c vars σ Q (r.bind k)) :
    PostE W c vars σ (fun v H' => ∃ c' d st', c.le c' ∧ Rel c' vars st' σ H' ∧ RV c' v d ∧ PostE W c' vars σ Q (k d st')) r := by
  cases r with
  | ok d st => exact fun v c2 H2 l r q => ⟨c2, d, st, l, r, q, PostE.mono l p⟩
  | rz x st => exact p
  | stuck => exact p
theorem PostE.bindL {Q : List V → Hp → Prop} {r : R} {k : D → Sto → Rl} (p : PostL W c vars σ Q (r.bindL k)) :
    PostE W c vars σ (fun v H' => ∃ c' d st', c.le c' ∧ Rel c' vars st' σ H' ∧ RV c' v d ∧ PostL W c' vars σ Q (k d st')) r := by
  cases r with
  | ok d st => exact fun v c2 H2 l r q => ⟨c2, d, st, l, r, q, PostL.mono l p⟩
  | rz x st => exact p
  | stuck => exact p
theorem PostL.bind {Q : VK} {r : Rl} {k : List D → Sto → R} (p : PostE W c vars σ Q (r.bind k)) :
    PostL W c vars σ (fun v H' => ∃ c' d st', c.le c' ∧ Rel c' vars st' σ H' ∧ RVs c' v d ∧ PostE W c' vars σ Q (k d st')) r := by
  cases r with
  | ok d st => exact fun v c2 H2 l r q => ⟨c2, d, st, l, r, q, PostE.mono l p⟩
  | rz x st => exact p
  | stuck => exact p
theorem PostL.bindL {Q : List V → Hp → Prop} {r : Rl} {k : List D → Sto → Rl} (p : PostL W c vars σ Q (r.bindL k)) :
    PostL W c vars σ (fun v H' => ∃ c' d st', c.le c' ∧ Rel c' vars st' σ H' ∧ RVs c' v d ∧ PostL W c' vars σ Q (k d st')) r := by
  cases r with
  | ok d st => exact fun v c2 H2 l r q => ⟨c2, d, st, l, r, q, PostL.mono l p⟩
  | rz x st => exact p
  | stuck => exact p
/-- a raise of an expression within a statement: the vars are as they were -/
theorem PostE.bindS {E : Ends} {r : R} {k : D → Sto → Rs} (p : PostS W c E (r.bindS vars k)) :
    PostE W c vars σ (fun v H' => ∃ c' d st', c.le c' ∧ Rel c' vars st' σ H' ∧ RV c' v d ∧ PostS W c' E (k d st')) r := by
  cases r with
  | ok d st => exact fun v c2 H2 l r q => ⟨c2, d, st, l, r, q, PostS.mono l p⟩
  | rz x st => exact fun c2 H2 cls dd l r q => p c2 σ H2 cls dd l r q
  | stuck => exact p

/-! ### new objects -/
theorem Rel.fresh {p : Addr} (r : RelS c st H) (hp : H p = none) : c.G p = none ∧ c.F p = none ∧ p ∉ c.ix :=
  ⟨r.ext.free hp, r.fr.free hp, fun hm => by obtain ⟨o, e⟩ := r.tr p hm; rw [hp] at e; cases e⟩
theorem RelS.newG {p : Addr} {o : HO} (r : RelS c st H) (hp : H p = none) : RelS { c with G := upd c.G p o } st (upd H p o) := by
  obtain ⟨h1, h2, h3⟩ := Rel.fresh r hp
  refine ⟨fun a u e => ?_, r.fr.upd h2, fun a u e => ?_, r.len, r.nd, fun n d e => ?_, fun n d e => ?_, fun P hP => ?_, fun q hq => ?_, r.tdj⟩
  · have e : upd c.G p o a = some u := e
    by_cases q : a = p
    · subst q; rw [upd_same] at e ⊢; exact e
    · rw [upd_ne q] at e ⊢; exact r.ext a u e
  · have e : upd c.G p o a = some u := e
    by_cases q : a = p
    · subst q; exact h2
    · rw [upd_ne q] at e; exact r.dj a u e
  · obtain ⟨a, e1, e2, e3, l⟩ := r.live n d e
    have q : a ≠ p := fun z => h3 (z ▸ List.mem_of_getElem? e1)
    refine ⟨a, e1, by show upd c.G p o a = none; rw [upd_ne q]; exact e2, e3, ?_⟩
    exact (l.mono (c := c) (c' := { c with G := upd c.G p o }) ⟨rfl, rfl, Ex.new h1, rfl, List.prefix_refl _⟩).at fun u z => by rw [upd_ne q]; exact z
  · obtain ⟨b, u, e1, e2, rv⟩ := r.dead n d e
    exact ⟨b, u, e1, Ex.new h1 _ _ e2, rv.mono (c := c) (c' := { c with G := upd c.G p o }) ⟨rfl, rfl, Ex.new h1, rfl, List.prefix_refl _⟩⟩
  · obtain ⟨t1, t2, t3, ps, t4, t5⟩ := r.tb P hP
    have q : P ≠ p := ne_of_none t4 hp
    exact ⟨by show upd c.G p o P = none; rw [upd_ne q]; exact t1, t2, t3, ps, by rw [upd_ne q]; exact t4, t5⟩
  · obtain ⟨t1, t2, t3, ps, t4, t5, t6⟩ := r.tl q hq
    have q : q.1 ≠ p := ne_of_none t4 hp
    exact ⟨by show upd c.G p o _ = none; rw [upd_ne q]; exact t1, t2, t3, ps, by rw [upd_ne q]; exact t4, t5, fun pos cv h => let ⟨a, e1, e2⟩ := t6 pos cv h; ⟨a, e1, Ex.new h1 _ _ e2⟩⟩
theorem Wd.le_newG {p : Addr} {o : HO} (h : c.G p = none) : c.le { c with G := upd c.G p o } := ⟨rfl, rfl, Ex.new h, rfl, List.prefix_refl _⟩
theorem Wd.le_newL {p : Addr} : c.le { c with ix := c.ix ++ [p] } := ⟨rfl, rfl, Ex.refl _, rfl, List.prefix_append _ _⟩
theorem RelS.newL {p : Addr} {o : HO} {d : D} (r : RelS c st H) (hp : H p = none) (l : Live c (upd H p o) p d) : RelS { c with ix := c.ix ++ [p] } (st ++ [(true, d)]) (upd H p o) := by
  obtain ⟨h1, h2, h3⟩ := Rel.fresh r hp
  refine ⟨r.ext.upd h1, r.fr.upd h2, r.dj, by simp [r.len], ?_, fun n d' e => ?_, fun n d' e => ?_, fun P hP => ?_, fun q hq => ?_, r.tdj⟩
  · refine List.nodup_append.mpr ⟨r.nd, by simp, fun a ha b hb => ?_⟩
    have e : b = p := by simpa using hb
    subst e
    exact fun z => h3 (z ▸ ha)
  · by_cases hn : n < st.length
    · rw [List.getElem?_append_left hn] at e
      obtain ⟨a, e1, e2, e3, l'⟩ := r.live n d' e
      have q : a ≠ p := fun z => h3 (z ▸ List.mem_of_getElem? e1)
      refine ⟨a, ?_, e2, e3, (l'.mono Wd.le_newL).at fun u z => by rw [upd_ne q]; exact z⟩
      rw [List.getElem?_append_left (by rw [r.len]; exact hn)]
      exact e1
    · have e' : n = st.length := by
        rw [List.getElem?_append_right (by omega)] at e
        have := (List.getElem?_eq_some_iff.mp e).1
        simp at this; omega
      subst e'
      simp at e
      subst e
      refine ⟨p, by rw [← r.len]; simp, h1, h2, l.mono Wd.le_newL⟩
  · have hn : n < st.length := by
      have := (List.getElem?_eq_some_iff.mp e).1
      rw [List.length_append, List.length_singleton] at this
      rcases Nat.lt_or_ge n st.length with z | z
      · exact z
      · have e' : n = st.length := by omega
        subst e'
        simp at e
    rw [List.getElem?_append_left hn] at e
    obtain ⟨a, u, e1, e2, rv⟩ := r.dead n d' e
    exact ⟨a, u, (by rw [List.getElem?_append_left (by rw [r.len]; exact hn)]; exact e1), e2, rv.mono Wd.le_newL⟩
  · obtain ⟨t1, t2, t3, ps, t4, t5⟩ := r.tb P hP
    have q : P ≠ p := ne_of_none t4 hp
    exact ⟨t1, t2, fun hm => (List.mem_append.mp hm).elim t3 fun hm => q (List.mem_singleton.mp hm), ps, by rw [upd_ne q]; exact t4, t5⟩
  · obtain ⟨t1, t2, t3, ps, t4, t5, t6⟩ := r.tl q hq
    have q : q.1 ≠ p := ne_of_none t4 hp
    exact ⟨t1, t2, fun hm => (List.mem_append.mp hm).elim t3 fun hm => q (List.mem_singleton.mp hm), ps, by rw [upd_ne q]; exact t4, t5, t6⟩
theorem Rel.of {r : Rel c vars st σ H} {st' : Sto} {H' : Hp} (h : c.le c') (s : RelS c' st' H') : Rel c' vars st' σ H' :=
  { s with vars := fun i d e => by obtain ⟨v, e1, e2⟩ := r.vars i d e; exact ⟨v, e1, e2.mono h⟩, vlen := r.vlen }
theorem Rel.ofR {r : Rel c vars st σ H} {st' : Sto} {H' : Hp} (h : c.leR c') (s : RelS c' st' H') : Rel c' vars st' σ H' :=
  { s with vars := fun i d e => by obtain ⟨v, e1, e2⟩ := r.vars i d e; exact ⟨v, e1, e2.monoR h⟩, vlen := r.vlen }
theorem Rel.newG {p : Addr} {o : HO} (r : Rel c vars st σ H) (hp : H p = none) : Rel { c with G := upd c.G p o } vars st σ (upd H p o) :=
  Rel.of (r := r) (Wd.le_newG (Rel.fresh r.toRelS hp).1) (r.toRelS.newG hp)
theorem Rel.newL {p : Addr} {o : HO} {d : D} (r : Rel c vars st σ H) (hp : H p = none) (l : Live c (upd H p o) p d) : Rel { c with ix := c.ix ++ [p] } vars (st ++ [(true, d)]) σ (upd H p o) :=
  Rel.of (r := r) Wd.le_newL (r.toRelS.newL hp l)

/-- a new object: known for ever (m = false), or live in the store -/
def newD (m : Bool) (d : D) (st : Sto) : R := if m then .ok (.loc st.length) (st ++ [(true, d)]) else .ok d st
theorem new_lst {Q : VK} {m : Bool} {p : Addr} {vs : List V} {ds : List D} (r : Rel c vars st σ H) (rv : RVs c vs ds) (hp : H p = none) (q : PostE W c vars σ Q (newD m (.lst ds) st)) : Q (.ref p) (upd H p (.lst vs)) := by
  have h1 := (Rel.fresh r.toRelS hp).1
  cases m with
  | false => exact q (.ref p) _ _ (Wd.le_newG h1) (r.newG hp) (.lst (show upd c.G p _ p = _ from upd_same) (rv.mono (Wd.le_newG h1)))
  | true =>
    refine q (.ref p) _ _ Wd.le_newL (r.newL hp (show Live c _ p (.lst ds) from ⟨vs, upd_same, rv⟩)) (.loc ?_)
    show (c.ix ++ [p])[st.length]? = some p
    rw [← r.len]; simp
theorem new_tup {Q : VK} {p : Addr} {vs : List V} {ds : List D} (r : Rel c vars st σ H) (rv : RVs c vs ds) (hp : H p = none) (q : PostE W c vars σ Q (.ok (.tup ds) st)) : Q (.ref p) (upd H p (.tup vs)) :=
  have h1 := (Rel.fresh r.toRelS hp).1
  q (.ref p) _ _ (Wd.le_newG h1) (r.newG hp) (.tup (show upd c.G p _ p = _ from upd_same) (rv.mono (Wd.le_newG h1)))

/-- a live object has changed -/
theorem RelS.put {n : Nat} {a : Addr} {o : HO} {d : D} (r : RelS c st H) (hi : c.ix[n]? = some a) (hG : c.G a = none) (hF : c.F a = none) (l : Live c (upd H a o) a d) : RelS c (st.set n (true, d)) (upd H a o) := by
  refine ⟨r.ext.upd hG, r.fr.upd hF, r.dj, by simp [r.len], r.nd, fun m d' e => ?_, fun m d' e => ?_, fun P hP => ?_, fun q hq => ?_, r.tdj⟩
  · by_cases q : m = n
    · subst q
      have hm : m < st.length := by rw [← r.len]; exact (List.getElem?_eq_some_iff.mp hi).1
      rw [List.getElem?_set_self hm] at e
      cases e
      exact ⟨a, hi, hG, hF, l⟩
    · rw [List.getElem?_set_ne (Ne.symm q)] at e
      obtain ⟨b, e1, e2, e3, l'⟩ := r.live m d' e
      have nb : b ≠ a := fun z => by
        subst z
        have h1 := (List.getElem?_eq_some_iff.mp e1).1
        have h2 := (List.getElem?_eq_some_iff.mp hi).1
        have e1' := (List.getElem?_eq_some_iff.mp e1).2
        have e2' := (List.getElem?_eq_some_iff.mp hi).2
        exact q ((List.getElem_inj (xs := c.ix) r.nd).mp (e1'.trans e2'.symm))
      exact ⟨b, e1, e2, e3, l'.at fun u z => by rw [upd_ne nb]; exact z⟩
  · have q : m ≠ n := fun z => by
      subst z
      have hm : m < st.length := by rw [← r.len]; exact (List.getElem?_eq_some_iff.mp hi).1
      rw [List.getElem?_set_self hm] at e
      cases e
    rw [List.getElem?_set_ne (Ne.symm q)] at e
    exact r.dead m d' e
  · obtain ⟨t1, t2, t3, ps, t4, t5⟩ := r.tb P hP
    have q : P ≠ a := fun z => t3 (z ▸ List.mem_of_getElem? hi)
    exact ⟨t1, t2, t3, ps, by rw [upd_ne q]; exact t4, t5⟩
  · obtain ⟨t1, t2, t3, ps, t4, t5, t6⟩ := r.tl q hq
    have q : q.1 ≠ a := fun z => t3 (z ▸ List.mem_of_getElem? hi)
    exact ⟨t1, t2, t3, ps, by rw [upd_ne q]; exact t4, t5, t6⟩
theorem Rel.put {n : Nat} {a : Addr} {o : HO} {d : D} (r : Rel c vars st σ H) (hi : c.ix[n]? = some a) (hG : c.G a = none) (hF : c.F a = none) (l : Live c (upd H a o) a d) : Rel c vars (st.set n (true, d)) σ (upd H a o) :=
  Rel.of (r := r) (Wd.le.refl _) (r.toRelS.put hi hG hF l)
/-- a live object is known for ever from now on -/
theorem RelS.frz {n : Nat} {a : Addr} {o : HO} (r : RelS c st H) (hi : c.ix[n]? = some a) (hF : c.F a = none) (hG : c.G a = none) (ho : H a = some o) {d : D} (rv : RV { c with G := upd c.G a o } (.ref a) d) : RelS { c with G := upd c.G a o } (st.set n (false, d)) H := by
  have le : c.le { c with G := upd c.G a o } := Wd.le_newG hG
  refine ⟨fun b u e => ?_, r.fr, fun b u e => ?_, by simp [r.len], r.nd, fun m d' e => ?_, fun m d' e => ?_, fun P hP => ?_, fun q hq => ?_, r.tdj⟩
  · have e : upd c.G a o b = some u := e
    by_cases q : b = a
    · subst q; rw [upd_same] at e; cases e; exact ho
    · rw [upd_ne q] at e; exact r.ext b u e
  · have e : upd c.G a o b = some u := e
    by_cases q : b = a
    · subst q; exact hF
    · rw [upd_ne q] at e; exact r.dj b u e
  · have q : m ≠ n := fun z => by
      subst z
      have hm : m < st.length := by rw [← r.len]; exact (List.getElem?_eq_some_iff.mp hi).1
      rw [List.getElem?_set_self hm] at e
      cases e
    rw [List.getElem?_set_ne (Ne.symm q)] at e
    obtain ⟨b, e1, e2, e3, l'⟩ := r.live m d' e
    have nb : b ≠ a := fun z => by
      subst z
      have e1' := (List.getElem?_eq_some_iff.mp e1).2
      have e2' := (List.getElem?_eq_some_iff.mp hi).2
      exact q ((List.getElem_inj (xs := c.ix) r.nd).mp (e1'.trans e2'.symm))
    exact ⟨b, e1, (upd_ne nb).trans e2, e3, l'.mono le⟩
  · by_cases q : m = n
    · subst q
      have hm : m < st.length := by rw [← r.len]; exact (List.getElem?_eq_some_iff.mp hi).1
      rw [List.getElem?_set_self hm] at e
      cases e
      exact ⟨a, o, hi, upd_same, rv⟩
    · rw [List.getElem?_set_ne (Ne.symm q)] at e
      obtain ⟨b, u, e1, e2, rv'⟩ := r.dead m d' e
      exact ⟨b, u, e1, le.G _ _ e2, rv'.mono le⟩
  · obtain ⟨t1, t2, t3, ps, t4, t5⟩ := r.tb P hP
    have q : P ≠ a := fun z => t3 (z ▸ List.mem_of_getElem? hi)
    exact ⟨by show upd c.G a o P = none; rw [upd_ne q]; exact t1, t2, t3, ps, t4, t5⟩
  · obtain ⟨t1, t2, t3, ps, t4, t5, t6⟩ := r.tl q hq
    have q : q.1 ≠ a := fun z => t3 (z ▸ List.mem_of_getElem? hi)
    exact ⟨by show upd c.G a o _ = none; rw [upd_ne q]; exact t1, t2, t3, ps, t4, t5, fun pos cv h => let ⟨a, e1, e2⟩ := t6 pos cv h; ⟨a, e1, le.G _ _ e2⟩⟩
theorem Rel.frz {n : Nat} {a : Addr} {o : HO} (r : Rel c vars st σ H) (hi : c.ix[n]? = some a) (hF : c.F a = none) (hG : c.G a = none) (ho : H a = some o) {d : D} (rv : RV { c with G := upd c.G a o } (.ref a) d) : Rel { c with G := upd c.G a o } vars (st.set n (false, d)) σ H :=
  Rel.of (r := r) (Wd.le_newG hG) (r.toRelS.frz hi hF hG ho rv)
end

/-- what a value is, its object looked up -/
def der (st : Sto) (d : D) : D := match d with
  | .loc n => match st[n]? with
    | some (_, c) => c
    | _ => .loc n
  | d => d
/-- the object's content is known for ever from here on -/
def frz (d : D) (st : Sto) : R := match d with
  | .loc n => match st[n]? with
    | some (true, c) => .ok c (st.set n (false, c))
    | some (false, c) => .ok c st
    | _ => .stuck
  | d => .ok d st
/-- known, or live in the store -/
theorem der_rv {c : Wd} {st : Sto} {H : Hp} {x : V} {d : D} (r : RelS c st H) (rv : RV c x d) : RV c x (der st d) ∨ ∃ n a, d = .loc n ∧ st[n]? = some (true, der st d) ∧ x = .ref a ∧ c.ix[n]? = some a ∧ c.G a = none ∧ c.F a = none ∧ Live c H a (der st d) := by
  cases rv with
  | @loc a n hi =>
    cases e : st[n]? with
    | none => exact .inl (by unfold der; dsimp only; rw [e]; exact .loc hi)
    | some p =>
      obtain ⟨k, cc⟩ := p
      have ed : der st (.loc n) = cc := by unfold der; dsimp only; rw [e]
      rw [ed]
      cases k with
      | false =>
        obtain ⟨b, o, e1, e2, rv⟩ := r.dead _ _ e
        rw [hi] at e1; cases e1
        exact .inl rv
      | true =>
        obtain ⟨b, e1, e2, e3, l⟩ := r.live _ _ e
        rw [hi] at e1; cases e1
        exact .inr ⟨n, a, rfl, e, rfl, hi, e2, e3, l⟩
  | non => exact .inl .non
  | bl b => exact .inl (.bl b)
  | int i => exact .inl (.int i)
  | str i => exact .inl (.str i)
  | tup a b => exact .inl (.tup a b)
  | lst a b => exact .inl (.lst a b)
  | dct a b d e f g => exact .inl (.dct a b d e f g)
  | ins a b d => exact .inl (.ins a b d)
  | fn a => exact .inl (.fn a)
  | scr a b => exact .inl (.scr a b)
/-- a list, a tuple that is read, known or live: where it stands -/
theorem der_lst {c : Wd} {st : Sto} {H : Hp} {x : V} {d : D} {ds : List D} (r : RelS c st H) (rv : RV c x d) (e : der st d = .lst ds) : ∃ a vs, x = .ref a ∧ H a = some (.lst vs) ∧ RVs c vs ds := by
  rcases der_rv r rv with rv | ⟨n, a, _, _, rfl, _, _, _, l⟩
  · rw [e] at rv
    cases rv with
    | lst h1 h2 => exact ⟨_, _, rfl, r.ext _ _ h1, h2⟩
  · rw [e] at l
    obtain ⟨vs, l1, l2⟩ := l
    exact ⟨a, vs, rfl, l1, l2⟩
theorem der_tup {c : Wd} {st : Sto} {H : Hp} {x : V} {d : D} {ds : List D} (r : RelS c st H) (rv : RV c x d) (e : der st d = .tup ds) : ∃ a vs, x = .ref a ∧ H a = some (.tup vs) ∧ RVs c vs ds := by
  rcases der_rv r rv with rv | ⟨n, a, _, _, rfl, _, _, _, l⟩
  · rw [e] at rv
    cases rv with
    | tup h1 h2 => exact ⟨_, _, rfl, r.ext _ _ h1, h2⟩
  · rw [e] at l
    exact l.elim
theorem frz_out {W : WX} {c : Wd} {vars : Vars} {st : Sto} {σ : L2.St} {H : Hp} {Q : VK} {v : V} {d : D} (r2 : Rel c vars st σ H) (rv : RV c v d) (p : PostE W c vars σ Q (frz d st)) : Q v H := by
  cases rv with
  | @loc a n hi =>
    unfold frz at p
    dsimp only at p
    split at p
    · rename_i cc hc
      obtain ⟨b, e1, e2, e3, l⟩ := r2.live _ _ hc
      rw [hi] at e1; cases e1
      obtain ⟨o, ho⟩ := l.some
      have le := Wd.le_newG (c := c) (o := o) e2
      have rv' : RV { c with G := upd c.G a o } (.ref a) cc := by
        cases cc with
        | lst ds => obtain ⟨vs, z, rr⟩ := l; rw [ho] at z; cases z; exact .lst upd_same (rr.mono le)
        | dct ks vs => obtain ⟨ep, es, nk, z, x1, x2, x3, x4, x5⟩ := l; rw [ho] at z; cases z; exact .dct upd_same (x1.mono le) (x2.mono le) x3 x4 x5
        | ins cn ns ds => obtain ⟨C, dx, fs, z, x1, x2, x3⟩ := l; rw [ho] at z; cases z; subst x2; exact .ins upd_same x1 (x3.mono le)
        | _ => exact l.elim
      exact p _ _ _ le (r2.frz hi e3 e2 ho rv') rv'
    · rename_i cc hc
      obtain ⟨b, o, e1, e2, rv⟩ := r2.dead _ _ hc
      rw [hi] at e1; cases e1
      exact p _ _ _ (Wd.le.refl _) r2 rv
    · exact p.elim
  | non => exact p _ _ _ (Wd.le.refl _) r2 .non
  | bl b => exact p _ _ _ (Wd.le.refl _) r2 (.bl b)
  | int i => exact p _ _ _ (Wd.le.refl _) r2 (.int i)
  | str i => exact p _ _ _ (Wd.le.refl _) r2 (.str i)
  | tup a b => exact p _ _ _ (Wd.le.refl _) r2 (.tup a b)
  | lst a b => exact p _ _ _ (Wd.le.refl _) r2 (.lst a b)
  | dct a b d e f g => exact p _ _ _ (Wd.le.refl _) r2 (.dct a b d e f g)
  | ins a b d => exact p _ _ _ (Wd.le.refl _) r2 (.ins a b d)
  | fn a => exact p _ _ _ (Wd.le.refl _) r2 (.fn a)
  | scr a b => exact p _ _ _ (Wd.le.refl _) r2 (.scr a b)

/-! ### names, constants -/
def zVar (i : Nat) : ZE := fun vars st => match vars[i]? with
  | some (some d) => .ok d st
  | _ => .stuck
def zC (d : D) : ZE := fun _ st => .ok d st
def zFrz (f : ZE) : ZE := fun vars st => (f vars st).bind frz
section
variable {X : Cx} {W : WZ}
theorem de_var {i : Nat} {e : Expr} (h : PE X e (tVar i)) : DE X W e (zVar i) := h.imp fun σ H Q ⟨c, vars, st, hw, hm, rel, q⟩ => by
  unfold zVar at q
  split at q
  · rename_i d e
    obtain ⟨v, e1, r⟩ := rel.vars i d e
    exact ⟨v, e1, q v c H (Wd.le.refl _) rel r⟩
  · exact q.elim
theorem de_c {e : Expr} {v : V} {d : D} (h : PE X e (tC v)) (r : ∀ c : Wd, c.mg = X.mg → RV c v d) : DE X W e (zC d) := h.imp fun σ H Q ⟨c, vars, st, hw, hm, rel, q⟩ =>
  q v c H (Wd.le.refl _) rel (r c (congrArg (fun m => Bs.mg (Md.b m)) hm))
theorem de_int {i j pos} : DE X W (.Constant (.int i) j pos) (zC (.int i)) := de_c pe_int fun _ _ => .int i
theorem de_bl {b j pos} : DE X W (.Constant (.bool b) j pos) (zC (.bl b)) := de_c pe_bl fun _ _ => .bl b
theorem de_non {j pos} : DE X W (.Constant .none j pos) (zC .non) := de_c pe_non fun _ _ => .non
theorem de_str {x j pos} : DE X W (.Constant (.str x) j pos) (zC (.str x)) := de_c pe_str fun _ _ => .str x
theorem de_v (i : Nat) {x : Str} {pos : Pos} (hN : X.N[i]? = some x := by rfl) (hv : Vis X.env.scope x := by first | exact Or.inl rfl | exact Or.inr (Or.inl rfl) | exact Or.inr (Or.inr rfl)) (hd : (x == ("__debug__" : Str)) = false := by decide)
    (hcd : (x == ("__classdict__" : Str)) = false := by decide) : DE X W (.Name x pos) (zVar i) := de_var (pe_var hN hv hd hcd)
/-- a constant of the module -/
theorem de_gi {x : Str} {i : Int} {t : Tok} {pos : Pos} (hm : X.mg x = some (.int i t)) (hg : Gl X x := by rfl) (hd : (x == ("__debug__" : Str)) = false := by decide) : DE X W (.Name x pos) (zC (.int i)) := de_c (pe_glob (v := .int i) hg hm ⟨t, rfl⟩ hd) fun _ _ => .int i
theorem de_gs {x y : Str} {t : Tok} {pos : Pos} (hm : X.mg x = some (.str y t)) (hg : Gl X x := by rfl) (hd : (x == ("__debug__" : Str)) = false := by decide) : DE X W (.Name x pos) (zC (.str y)) := de_c (pe_glob (v := .str y) hg hm ⟨t, rfl⟩ hd) fun _ _ => .str y
/-- a def, a class of the module as a value -/
theorem de_gf {x : Str} {a : Addr} {pos : Pos} (hm : X.mg x = some (.ref a)) (hg : Gl X x := by rfl) (hd : (x == ("__debug__" : Str)) = false := by decide) : DE X W (.Name x pos) (zC (.fn x)) := de_c (pe_glob (v := .ref a) hg hm rfl hd) fun c e => .fn (by rw [e]; exact hm)
theorem de_frz {e : Expr} {f : ZE} (h : DE X W e f) : DE X W e (zFrz f) := h.imp fun σ H Q ⟨c, vars, st, hw, hm, rel, q⟩ =>
  ⟨c, vars, st, hw, hm, rel, by
    have q' := PostE.bind q
    cases hf : f vars st with
    | stuck => rw [hf] at q'; exact q'
    | rz x st' => rw [hf] at q'; exact q'
    | ok d st' =>
      rw [hf] at q'
      intro v c1 H1 l1 r1 rv
      obtain ⟨c2, d2, st2, l2, r2, rv2, p2⟩ := q' v c1 H1 l1 r1 rv
      exact frz_out r2 rv2 p2⟩
end
end Zl

set_option Elab.async false
set_option linter.all false
set_option maxRecDepth 100000
set_option maxHeartbeats 1000000
/-! Layer Z, part 2: displays, operators, tests, subscripts. -/
namespace Zl
open PySem PySem.Spec PyProof.Rows L2

section
variable {W : WX} {c : Wd} {vars : Vars} {st : Sto} {σ : L2.St} {H : Hp}
theorem PostE.imp {Q Q' : VK} {r : R} (p : PostE W c vars σ Q r) (h : ∀ v H', Q v H' → Q' v H') : PostE W c vars σ Q' r := by
  cases r with
  | ok d st => exact fun v c2 H2 l r q => h _ _ (p v c2 H2 l r q)
  | rz x st => exact p
  | stuck => exact p
theorem PostL.imp {Q Q' : List V → Hp → Prop} {r : Rl} (p : PostL W c vars σ Q r) (h : ∀ v H', Q v H' → Q' v H') : PostL W c vars σ Q' r := by
  cases r with
  | ok d st => exact fun v c2 H2 l r q => h _ _ (p v c2 H2 l r q)
  | rz x st => exact p
  | stuck => exact p
/-- a test's outcome from a value's -/
theorem PostT.ofE {Q : Bool → Hp → Prop} {r : R} (p : PostT W c vars σ Q r) : PostE W c vars σ (fun v H' => ∃ c' b st', c.le c' ∧ Rel c' vars st' σ H' ∧ v = .bl b ∧ Q b H') r := by
  cases r with
  | ok d st =>
    cases d with
    | bl b => exact fun v c2 H2 l r q => by cases q with | bl => exact ⟨c2, b, st, l, r, rfl, p c2 H2 l r⟩
    | _ => exact p.elim
  | rz x st => exact p
  | stuck => exact p
theorem PostT.imp {Q Q' : Bool → Hp → Prop} {r : R} (p : PostT W c vars σ Q r) (h : ∀ v H', Q v H' → Q' v H') : PostT W c vars σ Q' r := by
  cases r with
  | ok d st =>
    cases d with
    | bl b => exact fun c2 H2 l r => h _ _ (p c2 H2 l r)
    | _ => exact p.elim
  | rz x st => exact p
  | stuck => exact p
theorem PostT.mono {c' : Wd} {Q : Bool → Hp → Prop} {r : R} (h : c.le c') (p : PostT W c vars σ Q r) : PostT W c' vars σ Q r := by
  cases r with
  | ok d st =>
    cases d with
    | bl b => exact fun c2 H2 l r => p c2 H2 (h.trans l) r
    | _ => exact p.elim
  | rz x st => exact Rz.mono h p
  | stuck => exact p
theorem PostT.bind {Q : Bool → Hp → Prop} {r : R} {k : D → Sto → R} (p : PostT W c vars σ Q (r.bind k)) :
    PostE W c vars σ (fun v H' => ∃ c' d st', c.le c' ∧ Rel c' vars st' σ H' ∧ RV c' v d ∧ PostT W c' vars σ Q (k d st')) r := by
  cases r with
  | ok d st => exact fun v c2 H2 l r q => ⟨c2, d, st, l, r, q, PostT.mono l p⟩
  | rz x st => exact p
  | stuck => exact p
end
/-- a test, then by its answer -/
def R.tst (r : R) (k : Bool → Sto → R) : R := match r with
  | .ok (.bl b) st => k b st
  | .rz x st => .rz x st
  | _ => .stuck
def R.tstS (vars : Vars) (r : R) (k : Bool → Sto → Rs) : Rs := match r with
  | .ok (.bl b) st => k b st
  | .rz x st => .rz x vars st
  | _ => .stuck
section
variable {W : WX} {c : Wd} {vars : Vars} {st : Sto} {σ : L2.St} {H : Hp}
theorem PostE.tst {Q : VK} {r : R} {k : Bool → Sto → R} (p : PostE W c vars σ Q (r.tst k)) :
    PostT W c vars σ (fun b H' => ∃ c' st', c.le c' ∧ Rel c' vars st' σ H' ∧ PostE W c' vars σ Q (k b st')) r := by
  cases r with
  | ok d st =>
    cases d with
    | bl b => exact fun c2 H2 l r => ⟨c2, st, l, r, PostE.mono l p⟩
    | _ => exact p.elim
  | rz x st => exact p
  | stuck => exact p
theorem PostT.tst {Q : Bool → Hp → Prop} {r : R} {k : Bool → Sto → R} (p : PostT W c vars σ Q (r.tst k)) :
    PostT W c vars σ (fun b H' => ∃ c' st', c.le c' ∧ Rel c' vars st' σ H' ∧ PostT W c' vars σ Q (k b st')) r := by
  cases r with
  | ok d st =>
    cases d with
    | bl b => exact fun c2 H2 l r => ⟨c2, st, l, r, PostT.mono l p⟩
    | _ => exact p.elim
  | rz x st => exact p
  | stuck => exact p
theorem PostT.tstS {E : Ends} {r : R} {k : Bool → Sto → Rs} (p : PostS W c E (r.tstS vars k)) :
    PostT W c vars σ (fun b H' => ∃ c' st', c.le c' ∧ Rel c' vars st' σ H' ∧ PostS W c' E (k b st')) r := by
  cases r with
  | ok d st =>
    cases d with
    | bl b => exact fun c2 H2 l r => ⟨c2, st, l, r, PostS.mono l p⟩
    | _ => exact p.elim
  | rz x st => exact fun c2 H2 cls dd l r q => p c2 σ H2 cls dd l r q
  | stuck => exact p
end

/-! ### argument lists, displays -/
def zNil : ZL := fun _ st => .ok [] st
def zCons (f : ZE) (l : ZL) : ZL := fun vars st => (f vars st).bindL fun d st => (l vars st).bindL fun ds st => .ok (d :: ds) st
def zTup (l : ZL) : ZE := fun vars st => (l vars st).bind fun ds st => if ds.length ≤ sizeLine then .ok (.tup ds) st else .stuck
def zLst (m : Bool) (l : ZL) : ZE := fun vars st => (l vars st).bind fun ds st => if ds.length ≤ sizeLine then newD m (.lst ds) st else .stuck
/-- an operation upon values -/
abbrev Op2 := D → D → Sto → R
abbrev OpN := List D → Sto → R
def zBin (op : Op2) (f g : ZE) : ZE := fun vars st => (f vars st).bind fun x st => (g vars st).bind fun y st => op x y st
def zUn (op : D → Sto → R) (f : ZE) : ZE := fun vars st => (f vars st).bind op
def zApp (op : OpN) (l : ZL) : ZE := fun vars st => (l vars st).bind op
def zOp (w : World) (mg : Bs) (op : Op2) : R2 := fun x y H Q => ∃ c vars st σ dx dy, c.w = w ∧ c.b = mg ∧ Rel c vars st σ H ∧ RV c x dx ∧ RV c y dy ∧ PostE (fun _ _ _ _ => False) c vars σ Q (op dx dy st)
def zOp1 (w : World) (mg : Bs) (op : D → Sto → R) : V → Hp → VK → Prop := fun x H Q => ∃ c vars st σ dx, c.w = w ∧ c.b = mg ∧ Rel c vars st σ H ∧ RV c x dx ∧ PostE (fun _ _ _ _ => False) c vars σ Q (op dx st)
def zOpN (w : World) (mg : Bs) (op : OpN) : List V → Hp → VK → Prop := fun xs H Q => ∃ c vars st σ ds, c.w = w ∧ c.b = mg ∧ Rel c vars st σ H ∧ RVs c xs ds ∧ PostE (fun _ _ _ _ => False) c vars σ Q (op ds st)
/-- it raises nothing -/
def R.quiet : R → R
  | .rz _ _ => .stuck
  | r => r
theorem PostE.quiet {W W' : WX} {c : Wd} {vars : Vars} {σ : L2.St} {Q : VK} {r : R} (p : PostE W c vars σ Q r.quiet) : PostE W' c vars σ Q r.quiet := by
  cases r with
  | ok d st => exact p
  | rz x st => exact p.elim
  | stuck => exact p
abbrev OpZ (X : Cx) (f : Value → Value → Sem Value) (op : Op2) : Prop := OpR X f (zOp X.w (Cx.bs X) op)
abbrev UnZ (X : Cx) (f : Value → Sem Value) (op : D → Sto → R) : Prop := UnR X f (zOp1 X.w (Cx.bs X) op)
abbrev CallZ (X : Cx) (f : Value) (op : OpN) : Prop := CallR X f (zOpN X.w (Cx.bs X) op)
section
variable {X : Cx} {W : WZ} {a b c e : Expr} {es : List Expr} {fa fb fc f : ZE} {l : ZL} {pos : Pos}
theorem da_nil : DA X W [] zNil := pa_nil.imp fun σ H Q ⟨c, vars, st, hw, hm, rel, q⟩ => q [] c H (Wd.le.refl _) rel .nil
theorem da_cons (h : DE X W e f) (hl : DA X W es l) (hs : starEach (e :: es) X.env = (false, eval e X.env) :: starEach es X.env := by rfl) : DA X W (e :: es) (zCons f l) := (pa_cons h hl hs).imp fun σ H Q ⟨c, vars, st, hw, hm, rel, q⟩ =>
  ⟨c, vars, st, hw, hm, rel, (PostE.bindL q).imp fun v H1 ⟨c1, d, st1, l1, r1, rv, p1⟩ =>
    ⟨c1, vars, st1, l1.w.trans hw, l1.md.trans hm, r1, (PostL.bindL p1).imp fun vs H2 ⟨c2, ds, st2, l2, r2, rvs, p2⟩ => p2 (v :: vs) c2 H2 (Wd.le.refl _) r2 (.cons (rv.mono l2) rvs)⟩⟩
theorem de_tup {x1} (h : DA X W es l) : DE X W (.Tuple es x1 pos) (zTup l) := (pe_tup h).imp fun σ H Q ⟨c, vars, st, hw, hm, rel, q⟩ =>
  ⟨c, vars, st, hw, hm, rel, (PostL.bind q).imp fun vs H1 ⟨c1, ds, st1, l1, r1, rv, p1⟩ => by
    by_cases hz : ds.length ≤ sizeLine
    · rw [if_pos hz] at p1
      exact ⟨by rw [rv.length]; exact hz, fun p hp => new_tup r1 rv hp p1⟩
    · rw [if_neg hz] at p1
      exact p1.elim⟩
theorem de_lst (m : Bool) (h : DA X W es l) : DE X W (.List es pos) (zLst m l) := (pe_lst h).imp fun σ H Q ⟨c, vars, st, hw, hm, rel, q⟩ =>
  ⟨c, vars, st, hw, hm, rel, (PostL.bind q).imp fun vs H1 ⟨c1, ds, st1, l1, r1, rv, p1⟩ => by
    by_cases hz : ds.length ≤ sizeLine
    · rw [if_pos hz] at p1
      exact ⟨by rw [rv.length]; exact hz, fun p hp => new_lst r1 rv hp p1⟩
    · rw [if_neg hz] at p1
      exact p1.elim⟩
/-- the operator raises nothing: its outcome is quiet -/
def qOp (op : Op2) : Op2 := fun x y st => (op x y st).quiet
def qOp1 (op : D → Sto → R) : D → Sto → R := fun x st => (op x st).quiet
def qOpN (op : OpN) : OpN := fun x st => (op x st).quiet
theorem ent_bin {W : WX} {w : World} {mg : Md} {op : Op2} {σ : L2.St} {H : Hp} {Q : VK} (h : zE w mg W (zBin (qOp op) fa fb) σ H Q) : tOp (zOp w mg.b (qOp op)) (zE w mg W fa) (zE w mg W fb) σ H Q :=
  let ⟨c, vars, st, hw, hm, rel, q⟩ := h
  ⟨c, vars, st, hw, hm, rel, (PostE.bind q).imp fun v H1 ⟨c1, d, st1, l1, r1, rv, p1⟩ =>
    ⟨c1, vars, st1, l1.w.trans hw, l1.md.trans hm, r1, (PostE.bind p1).imp fun u H2 ⟨c2, e, st2, l2, r2, ru, p2⟩ =>
      ⟨c2, vars, st2, σ, d, e, (l2.w.trans l1.w).trans hw, (l2.b.trans l1.b).trans (mgo hm), r2, rv.mono l2, ru, PostE.quiet p2⟩⟩⟩
theorem de_op {op : Operator} {g : Op2} (ho : OpZ X (binaryOp op) (qOp g)) (ha : DE X W a fa) (hb : DE X W b fb) : DE X W (.BinOp a op b pos) (zBin (qOp g) fa fb) := (pe_op ho ha hb).imp fun _ _ _ => ent_bin
theorem de_un {op : UnaryOp} {g : D → Sto → R} (ho : UnZ X (unaryOp op) (qOp1 g)) (ha : DE X W a fa) : DE X W (.UnaryOp op a pos) (zUn (qOp1 g) fa) := (pe_un ho ha).imp fun σ H Q ⟨c, vars, st, hw, hm, rel, q⟩ =>
  ⟨c, vars, st, hw, hm, rel, (PostE.bind q).imp fun v H1 ⟨c1, d, st1, l1, r1, rv, p1⟩ => ⟨c1, vars, st1, σ, d, l1.w.trans hw, l1.b.trans (mgo hm), r1, rv, PostE.quiet p1⟩⟩
theorem de_cmp {op : CmpOp} {g : Op2} (ho : OpZ X (compareOp op) (qOp g)) (ha : DE X W a fa) (hb : DE X W b fb) (hm : behindInMarks op b = false := by first | exact nomark _ | rfl) : DE X W (.Compare a [op] [b] pos) (zBin (qOp g) fa fb) := (pe_cmpR ho ha hb hm).imp fun _ _ _ => ent_bin
/-- a test of an expression that gives a bool -/
theorem dt_val (h : DE X W e f) (he : ∀ whole, isTrue e X.env whole = (do let v ← whole; standAt e.pos; holding [v] (truthy v)) := by intro _; rfl) : DT X W e f := (pt_val h he).imp fun σ H Q ⟨c, vars, st, hw, hm, rel, q⟩ =>
  ⟨c, vars, st, hw, hm, rel, (PostT.ofE q).imp fun v H1 ⟨_, b, _, _, _, e, p⟩ => ⟨b, e, p⟩⟩
theorem dt_cmp {op : CmpOp} {g : Op2} (ho : OpZ X (compareOp op) (qOp g)) (ha : DE X W a fa) (hb : DE X W b fb) (hm : behindInMarks op b = false := by first | exact nomark _ | rfl) : DT X W (.Compare a [op] [b] pos) (zBin (qOp g) fa fb) := (pt_cmpR ho ha hb hm).imp fun σ H Q ⟨c, vars, st, hw, hmg, rel, q⟩ =>
  ent_bin ⟨c, vars, st, hw, hmg, rel, (PostT.ofE q).imp fun v H1 ⟨_, b, _, _, _, e, p⟩ => ⟨b, e, p⟩⟩

/-! ### and, or, not, a if t else b -/
def zAnd (f g : ZE) : ZE := fun vars st => (f vars st).tst fun b st => if b = true then g vars st else .ok (.bl false) st
def zOr (f g : ZE) : ZE := fun vars st => (f vars st).tst fun b st => if b = true then .ok (.bl true) st else g vars st
def zNot (f : ZE) : ZE := fun vars st => (f vars st).tst fun b st => .ok (.bl (!b)) st
def zIf (t f g : ZE) : ZE := fun vars st => (t vars st).tst fun b st => if b = true then f vars st else g vars st
abbrev DW (X : Cx) (W : WZ) (e : Expr) (f : ZE) : Prop := PW X e (zT X.w (Cx.md X W) W.x f)
theorem dw_and1 (ha : DT X W a fa) : DW X W (.BoolOp .And [a] pos) fa := pw_and1 ha
theorem dw_or1 (ha : DT X W a fa) : DW X W (.BoolOp .Or [a] pos) fa := pw_or1 ha
theorem dw_and (ha : DT X W a fa) (hb : DW X W (.BoolOp .And (b :: es) pos) fb) : DW X W (.BoolOp .And (a :: b :: es) pos) (zAnd fa fb) := (pw_and ha hb).imp fun σ H Q ⟨c, vars, st, hw, hm, rel, q⟩ =>
  ⟨c, vars, st, hw, hm, rel, (PostT.tst q).imp fun k H1 ⟨c1, st1, l1, r1, p1⟩ => by
    cases k with
    | true => exact iteT ⟨c1, vars, st1, l1.w.trans hw, l1.md.trans hm, r1, p1⟩
    | false => exact iteF (p1 c1 H1 (Wd.le.refl _) r1)⟩
theorem dw_or (ha : DT X W a fa) (hb : DW X W (.BoolOp .Or (b :: es) pos) fb) : DW X W (.BoolOp .Or (a :: b :: es) pos) (zOr fa fb) := (pw_or ha hb).imp fun σ H Q ⟨c, vars, st, hw, hm, rel, q⟩ =>
  ⟨c, vars, st, hw, hm, rel, (PostT.tst q).imp fun k H1 ⟨c1, st1, l1, r1, p1⟩ => by
    cases k with
    | false => exact iteF ⟨c1, vars, st1, l1.w.trans hw, l1.md.trans hm, r1, p1⟩
    | true => exact iteT (p1 c1 H1 (Wd.le.refl _) r1)⟩
theorem dt_w (h : DW X W e f) : DT X W e f := h.pt
theorem dt_not (ha : DT X W a fa) : DT X W (.UnaryOp .Not a pos) (zNot fa) := (pt_not ha).imp fun σ H Q ⟨c, vars, st, hw, hm, rel, q⟩ =>
  ⟨c, vars, st, hw, hm, rel, (PostT.tst q).imp fun k H1 ⟨c1, st1, l1, r1, p1⟩ => p1 c1 H1 (Wd.le.refl _) r1⟩
theorem de_if (hc : DT X W c fc) (ha : DE X W a fa) (hb : DE X W b fb) : DE X W (.IfExp c a b pos) (zIf fc fa fb) := (pe_ifExp hc ha hb).imp fun σ H Q ⟨c, vars, st, hw, hm, rel, q⟩ =>
  ⟨c, vars, st, hw, hm, rel, (PostE.tst q).imp fun k H1 ⟨c1, st1, l1, r1, p1⟩ => by
    cases k with
    | true => exact iteT ⟨c1, vars, st1, l1.w.trans hw, l1.md.trans hm, r1, p1⟩
    | false => exact iteF ⟨c1, vars, st1, l1.w.trans hw, l1.md.trans hm, r1, p1⟩⟩
/-- .. as values, bools -/
theorem de_one {op} (h : DE X W a fa) : DE X W (.BoolOp op [a] pos) fa := pe_one h
theorem PostE.tstE {W : WX} {c : Wd} {vars : Vars} {σ : L2.St} {Q : VK} {r : R} {k : Bool → Sto → R} (p : PostE W c vars σ Q (r.tst k)) :
    PostE W c vars σ (fun v H' => ∃ b c' st', v = .bl b ∧ c.le c' ∧ Rel c' vars st' σ H' ∧ PostE W c' vars σ Q (k b st')) r :=
  (PostT.ofE (PostE.tst p)).imp fun v H' ⟨_, b, _, _, _, e, c', st', l, r, q⟩ => ⟨b, c', st', e, l, r, q⟩
theorem de_and (ha : DE X W a fa) (hb : DE X W (.BoolOp .And (b :: es) pos) fb) : DE X W (.BoolOp .And (a :: b :: es) pos) (zAnd fa fb) := (pe_and ha hb).imp fun σ H Q ⟨c, vars, st, hw, hm, rel, q⟩ =>
  ⟨c, vars, st, hw, hm, rel, (PostE.tstE q).imp fun v H1 ⟨k, c1, st1, e, l1, r1, p1⟩ => ⟨k, e, by
    cases k with
    | true => exact iteT ⟨c1, vars, st1, l1.w.trans hw, l1.md.trans hm, r1, p1⟩
    | false => exact iteF (p1 _ c1 H1 (Wd.le.refl _) r1 (.bl _))⟩⟩
theorem de_or (ha : DE X W a fa) (hb : DE X W (.BoolOp .Or (b :: es) pos) fb) : DE X W (.BoolOp .Or (a :: b :: es) pos) (zOr fa fb) := (pe_or ha hb).imp fun σ H Q ⟨c, vars, st, hw, hm, rel, q⟩ =>
  ⟨c, vars, st, hw, hm, rel, (PostE.tstE q).imp fun v H1 ⟨k, c1, st1, e, l1, r1, p1⟩ => ⟨k, e, by
    cases k with
    | false => exact iteF ⟨c1, vars, st1, l1.w.trans hw, l1.md.trans hm, r1, p1⟩
    | true => exact iteT (p1 _ c1 H1 (Wd.le.refl _) r1 (.bl _))⟩⟩
theorem de_not (ha : DE X W a fa) : DE X W (.UnaryOp .Not a pos) (zNot fa) := (pe_not ha).imp fun σ H Q ⟨c, vars, st, hw, hm, rel, q⟩ =>
  ⟨c, vars, st, hw, hm, rel, (PostE.tstE q).imp fun v H1 ⟨k, c1, st1, e, l1, r1, p1⟩ => ⟨k, e, p1 _ c1 H1 (Wd.le.refl _) r1 (.bl _)⟩⟩
end

/-! ### the operators, by values -/
/-- the first that serves -/
def orO (f g : Op2) : Op2 := fun x y st => match f x y st with
  | .stuck => g x y st
  | r => r
theorem OpZ.or {X : Cx} {h : Value → Value → Sem Value} {f g : Op2} (hf : OpZ X h f) (hg : OpZ X h g) : OpZ X h (orO f g) := fun pins s σ H x y v u Q I rx ry ⟨c, vars, st, σ', dx, dy, hw, hm, rel, r1, r2, q⟩ => by
  cases e : f dx dy st with
  | stuck => exact hg pins s σ H x y v u Q I rx ry ⟨c, vars, st, σ', dx, dy, hw, hm, rel, r1, r2, by unfold orO at q; rw [e] at q; exact q⟩
  | ok d st' => exact hf pins s σ H x y v u Q I rx ry ⟨c, vars, st, σ', dx, dy, hw, hm, rel, r1, r2, by unfold orO at q; rw [e] at q ⊢; exact q⟩
  | rz d st' => exact hf pins s σ H x y v u Q I rx ry ⟨c, vars, st, σ', dx, dy, hw, hm, rel, r1, r2, by unfold orO at q; rw [e] at q ⊢; exact q⟩
def orN (f g : OpN) : OpN := fun x st => match f x st with
  | .stuck => g x st
  | r => r
theorem CallZ.or {X : Cx} {h : Value} {f g : OpN} (hf : CallZ X h f) (hg : CallZ X h g) : CallZ X h (orN f g) := fun pins s σ H x v Q I rx ⟨c, vars, st, σ', dx, hw, hm, rel, r1, q⟩ => by
  cases e : f dx st with
  | stuck => exact hg pins s σ H x v Q I rx ⟨c, vars, st, σ', dx, hw, hm, rel, r1, by unfold orN at q; rw [e] at q; exact q⟩
  | ok d st' => exact hf pins s σ H x v Q I rx ⟨c, vars, st, σ', dx, hw, hm, rel, r1, by unfold orN at q; rw [e] at q ⊢; exact q⟩
  | rz d st' => exact hf pins s σ H x v Q I rx ⟨c, vars, st, σ', dx, hw, hm, rel, r1, by unfold orN at q; rw [e] at q ⊢; exact q⟩
/-- an operator whose outcome is quiet by itself -/
theorem OpZ.q {X : Cx} {h : Value → Value → Sem Value} {f : Op2} (hf : OpZ X h f) : OpZ X h (qOp f) := fun pins s σ H x y v u Q I rx ry ⟨c, vars, st, σ', dx, dy, hw, hm, rel, r1, r2, q⟩ =>
  hf pins s σ H x y v u Q I rx ry ⟨c, vars, st, σ', dx, dy, hw, hm, rel, r1, r2, by
    unfold qOp at q
    cases e : f dx dy st with
    | stuck => rw [e] at q; exact q
    | ok d st' => rw [e] at q; exact q
    | rz d st' => rw [e] at q; exact q.elim⟩
theorem CallZ.q {X : Cx} {h : Value} {f : OpN} (hf : CallZ X h f) : CallZ X h (qOpN f) := fun pins s σ H x v Q I rx ⟨c, vars, st, σ', dx, hw, hm, rel, r1, q⟩ =>
  hf pins s σ H x v Q I rx ⟨c, vars, st, σ', dx, hw, hm, rel, r1, by
    unfold qOpN at q
    cases e : f dx st with
    | stuck => rw [e] at q; exact q
    | ok d st' => rw [e] at q; exact q
    | rz d st' => rw [e] at q; exact q.elim⟩
/-- two ints, under a condition -/
def oII (C : Int → Int → Bool) (g : Int → Int → D) : Op2 := fun x y st => match x, y with
  | .int i, .int j => if C i j = true then .ok (g i j) st else .stuck
  | _, _ => .stuck
theorem oz_II {X : Cx} {h : Value → Value → Sem Value} {Cp : Int → Int → Prop} {C : Int → Int → Bool} {g : Int → Int → V} {g' : Int → Int → D} (r : OpR X h (rI Cp g)) (hC : ∀ i j, C i j = true → Cp i j) (hg : ∀ c i j, RV c (g i j) (g' i j)) : OpZ X h (oII C g') :=
  fun pins s σ H x y v u Q I rx ry ⟨c, vars, st, σ', dx, dy, hw, hm, rel, r1, r2, q⟩ => by
    unfold oII at q
    split at q
    · cases r1; cases r2
      split at q
      · rename_i hc
        exact r pins s σ H _ _ v u Q I rx ry ⟨_, _, rfl, rfl, hC _ _ hc, q _ c H (Wd.le.refl _) rel (hg _ _ _)⟩
      · exact q.elim
    · exact q.elim
def oI0 (g : Int → Int → D) : Op2 := oII (fun _ _ => true) g
theorem oz_I0 {X : Cx} {h : Value → Value → Sem Value} {g : Int → Int → V} {g' : Int → Int → D} (r : OpR X h (rI0 g)) (hg : ∀ c i j, RV c (g i j) (g' i j)) : OpZ X h (oI0 g') :=
  oz_II (Cp := fun _ _ => True) (g := g) (fun pins s σ H x y v u Q I rx ry ⟨i, j, e1, e2, _, q⟩ => r pins s σ H x y v u Q I rx ry ⟨i, j, e1, e2, q⟩) (fun _ _ _ => trivial) hg
section
variable {X : Cx}
def oAddI : Op2 := oI0 fun i j => .int (i + j)
def oSubI : Op2 := oI0 fun i j => .int (i - j)
def cMul (i j : Int) : Bool := decide ((-(2 ^ 64) < i ∧ i < 2 ^ 64) ∨ (-(2 ^ 64) < j ∧ j < 2 ^ 64))
def oMulI : Op2 := oII cMul fun i j => .int (i * j)
def cMod (_ j : Int) : Bool := decide (0 < j)
def oModI : Op2 := oII cMod fun i j => .int (i % j)
def cDiv (_ j : Int) : Bool := decide (0 < j ∧ j < 1073741824)
def oDivI : Op2 := oII cDiv fun i j => .int (i / j)
def cPow (i j : Int) : Bool := decide (0 ≤ j ∧ j ≤ 1000000 ∧ i.natAbs < 2 ^ 64)
def oPowI : Op2 := oII cPow fun i j => .int (i ^ j.toNat)
theorem oz_addI : OpZ X (binaryOp .Add) oAddI := oz_I0 op_add fun _ _ _ => .int _
theorem oz_subI : OpZ X (binaryOp .Sub) oSubI := oz_I0 op_sub fun _ _ _ => .int _
theorem oz_mulI : OpZ X (binaryOp .Mult) oMulI := oz_II op_mul (fun _ _ h => by simpa [cMul, CMul] using h) fun _ _ _ => .int _
theorem oz_modI : OpZ X (binaryOp .Mod) oModI := oz_II op_mod (fun _ _ h => of_decide_eq_true h) fun _ _ _ => .int _
theorem oz_divI : OpZ X (binaryOp .FloorDiv) oDivI := oz_II op_fdiv (fun _ _ h => by simpa [cDiv, CDiv] using h) fun _ _ _ => .int _
theorem oz_powI : OpZ X (binaryOp .Pow) oPowI := oz_II op_pow (fun _ _ h => by simpa [cPow, CPow] using h) fun _ _ _ => .int _
theorem oz_iaddI : OpZ X (inplaceOp .Add) oAddI := oz_I0 iop_add fun _ _ _ => .int _
def oLtI : Op2 := oI0 fun i j => .bl (decide (i < j))
def oLeI : Op2 := oI0 fun i j => .bl (decide (i ≤ j))
def oGtI : Op2 := oI0 fun i j => .bl (decide (j < i))
def oGeI : Op2 := oI0 fun i j => .bl (decide (j ≤ i))
theorem oz_lt : OpZ X (compareOp .Lt) oLtI := oz_I0 op_lt fun _ _ _ => .bl _
theorem oz_le : OpZ X (compareOp .LtE) oLeI := oz_I0 op_le fun _ _ _ => .bl _
theorem oz_gt : OpZ X (compareOp .Gt) oGtI := oz_I0 op_gt fun _ _ _ => .bl _
theorem oz_ge : OpZ X (compareOp .GtE) oGeI := oz_I0 op_ge fun _ _ _ => .bl _
/-- texts -/
def oAddS : Op2 := fun x y st => match x, y with
  | .str a, .str b => if a.length + b.length ≤ sizeLine then .ok (.str (a ++ b)) st else .stuck
  | _, _ => .stuck
theorem oz_addS : OpZ X (binaryOp .Add) oAddS := fun pins s σ H x y v u Q I rx ry ⟨c, vars, st, σ', dx, dy, hw, hm, rel, r1, r2, q⟩ => by
  unfold oAddS at q
  split at q
  · split at q
    · rename_i hz
      cases r1; cases r2
      exact op_add_str pins s σ H _ _ v u Q I rx ry ⟨_, _, rfl, rfl, hz, q _ c H (Wd.le.refl _) rel (.str _)⟩
    · exact q.elim
  · exact q.elim
/-- tuples -/
def oAddT : Op2 := fun x y st => match x, y with
  | .tup a, .tup b => if a.length + b.length ≤ sizeLine then .ok (.tup (a ++ b)) st else .stuck
  | _, _ => .stuck
theorem oz_addT : OpZ X (binaryOp .Add) oAddT := fun pins s σ H x y v u Q I rx ry ⟨c, vars, st, σ', dx, dy, hw, hm, rel, r1, r2, q⟩ => by
  unfold oAddT at q
  split at q
  · split at q
    · rename_i a b hz
      have r1' := r1
      have r2' := r2
      cases r1 with
      | tup g1 s1 =>
        cases r2 with
        | tup g2 s2 =>
          refine op_catA pins s σ H _ _ v u Q I rx ry ⟨_, _, _, _, rfl, rfl, SqT.of (rel.ext _ _ g1), SqT.of (rel.ext _ _ g2), by rw [s1.length, s2.length]; exact hz, fun e => ?_, fun e1 e2 => ?_, fun e1 e2 p hp => ?_⟩
          · subst e
            cases s1
            exact q _ c H (Wd.le.refl _) rel (by simpa using r2')
          · subst e2
            cases s2
            exact q _ c H (Wd.le.refl _) rel (by simpa using r1')
          · exact new_tup rel (s1.append s2) hp q
    · exact q.elim
  · exact q.elim
/-- lists: a new one -/
def oAddL (m : Bool) : Op2 := fun x y st => match der st x, der st y with
  | .lst a, .lst b => if a.length + b.length ≤ sizeLine then newD m (.lst (a ++ b)) st else .stuck
  | _, _ => .stuck
theorem oz_addL (m : Bool) : OpZ X (binaryOp .Add) (oAddL m) := fun pins s σ H x y v u Q I rx ry ⟨c, vars, st, σ', dx, dy, hw, hm, rel, r1, r2, q⟩ => by
  unfold oAddL at q
  split at q
  · rename_i a b e1 e2
    split at q
    · rename_i hz
      obtain ⟨p1, vs1, rfl, h1, s1⟩ := der_lst rel.toRelS r1 e1
      obtain ⟨p2, vs2, rfl, h2, s2⟩ := der_lst rel.toRelS r2 e2
      exact op_cat pins s σ H _ _ v u Q I rx ry ⟨_, _, _, _, rfl, rfl, h1, h2, by rw [s1.length, s2.length]; exact hz, fun p hp => new_lst rel (s1.append s2) hp q⟩
    · exact q.elim
  · exact q.elim
/-- a list, k times -/
def oMulL (m : Bool) : Op2 := fun x y st => match der st x, y with
  | .lst a, .int k => if -(2 ^ 63) ≤ k ∧ k < 2 ^ 63 ∧ a.length * k.toNat ≤ sizeLine then newD m (.lst (List.replicate k.toNat a).flatten) st else .stuck
  | _, _ => .stuck
theorem RVs.rep {c : Wd} {vs : List V} {ds : List D} (h : RVs c vs ds) : ∀ k : Nat, RVs c (List.replicate k vs).flatten (List.replicate k ds).flatten
  | 0 => .nil
  | k + 1 => by
    rw [List.replicate_succ, List.replicate_succ, List.flatten_cons, List.flatten_cons]
    exact h.append (RVs.rep h k)
end
end Zl

set_option Elab.async false
set_option linter.all false
set_option maxRecDepth 100000
set_option maxHeartbeats 1000000
/-! Layer Z, part 3: equality, membership, subscripts, slices, built-in calls. -/
namespace Zl
open PySem PySem.Spec PyProof.Rows L2

section
variable {X : Cx} {c : Wd} {H : Hp}
mutual
theorem RV.dp {K : PySem.W.Frag} (e : Ex c.G H) : ∀ {v : V} {d : D} {p : PyData}, RV c v d → D.py d = some p → Dp K H v p
  | _, _, _, .non, h => by simp only [D.py, Option.some.injEq] at h; subst h; exact .non
  | _, _, _, .bl b, h => by simp only [D.py, Option.some.injEq] at h; subst h; exact .bl b
  | _, _, _, .int i, h => by simp only [D.py, Option.some.injEq] at h; subst h; exact .int i
  | _, _, _, .str x, h => by simp only [D.py, Option.some.injEq] at h; subst h; exact .str x
  | _, _, _, .tup g s, h => by
    simp only [D.py, Option.map_eq_some_iff] at h
    obtain ⟨ps, h1, rfl⟩ := h
    exact .tup (SqT.of (e _ _ g)) (RVs.dp e s h1)
  | _, _, _, .lst g s, h => by
    simp only [D.py, Option.map_eq_some_iff] at h
    obtain ⟨ps, h1, rfl⟩ := h
    exact .lst (SqL.of (e _ _ g)) (RVs.dp e s h1)
  | _, _, _, .dct .., h => by simp [D.py] at h
  | _, _, _, .ins .., h => by simp [D.py] at h
  | _, _, _, .loc _, h => by simp [D.py] at h
  | _, _, _, .fn _, h => by simp [D.py] at h
  | _, _, _, .scr .., h => by simp [D.py] at h
theorem RVs.dp {K : PySem.W.Frag} (e : Ex c.G H) : ∀ {vs : List V} {ds : List D} {ps : List PyData}, RVs c vs ds → D.pys ds = some ps → DpAll K H vs ps
  | _, _, _, .nil, h => by simp only [D.pys, Option.some.injEq] at h; subst h; exact .nil
  | _, _, _, .cons a b, h => by
    unfold D.pys at h
    split at h
    · rename_i k ks e1 e2
      cases h
      exact .cons (RV.dp e a e1) (RVs.dp e b e2)
    · cases h
end
theorem der_dp {K : PySem.W.Frag} {st : Sto} {v : V} {d : D} {p : PyData} (r : RelS c st H) (rv : RV c v d) (h : D.py (der st d) = some p) : Dp K H v p := by
  rcases der_rv r rv with rv | ⟨n, a, _, _, rfl, _, _, _, l⟩
  · exact rv.dp r.ext h
  · generalize der st d = cc at h l
    cases cc with
    | lst ds =>
      obtain ⟨vs, l1, l2⟩ := l
      simp only [D.py, Option.map_eq_some_iff] at h
      obtain ⟨ps, h1, rfl⟩ := h
      exact .lst (SqL.of l1) (RVs.dp r.ext l2 h1)
    | dct ks vs => simp [D.py] at h
    | ins cn ns ds => simp [D.py] at h
    | _ => exact l.elim
end
/-- == -/
def oEqD (neg : Bool) : Op2 := fun x y st => match D.py (der st x), D.py (der st y) with
  | some a, some b => if SeqAt.shaped a && SeqAt.shaped b then .ok (.bl (if neg then !PyData.eqv a b else PyData.eqv a b)) st else .stuck
  | _, _ => .stuck
/-- in, not in: a list, a tuple -/
def oInD (neg : Bool) : Op2 := fun x y st => match D.py (der st x), D.py (der st y) with
  | some a, some (.list bs) => if SeqAt.shaped a && PyData.canLayAll0 bs then .ok (.bl (if neg then !bs.any fun z => PyData.eqv z a else bs.any fun z => PyData.eqv z a)) st else .stuck
  | some a, some (.tuple bs) => if SeqAt.shaped a && PyData.canLayAll0 bs then .ok (.bl (if neg then !bs.any fun z => PyData.eqv z a else bs.any fun z => PyData.eqv z a)) st else .stuck
  | _, _ => .stuck
section
variable {X : Cx} {W : WZ} {a b c e : Expr} {es : List Expr} {fa fb fc f : ZE} {l : ZL} {pos : Pos}
theorem oz_eq (hu : X.A.units + 64 < cLine) : OpZ X (compareOp .Eq) (oEqD false) := fun pins s σ H x y v u Q I rx ry ⟨c, vars, st, σ', dx, dy, hw, hm, rel, r1, r2, q⟩ => by
  unfold oEqD at q
  split at q
  · rename_i a b ha hb
    split at q
    · rename_i hz
      rw [Bool.and_eq_true] at hz
      exact op_eqD hu pins s σ H _ _ v u Q I rx ry ⟨a, b, der_dp rel.toRelS r1 ha, der_dp rel.toRelS r2 hb, hz.1, hz.2, q _ c H (Wd.le.refl _) rel (.bl _)⟩
    · exact q.elim
  · exact q.elim
theorem oz_ne (hu : X.A.units + 64 < cLine) : OpZ X (compareOp .NotEq) (oEqD true) := fun pins s σ H x y v u Q I rx ry ⟨c, vars, st, σ', dx, dy, hw, hm, rel, r1, r2, q⟩ => by
  unfold oEqD at q
  split at q
  · rename_i a b ha hb
    split at q
    · rename_i hz
      rw [Bool.and_eq_true] at hz
      exact op_neD hu pins s σ H _ _ v u Q I rx ry ⟨a, b, der_dp rel.toRelS r1 ha, der_dp rel.toRelS r2 hb, hz.1, hz.2, q _ c H (Wd.le.refl _) rel (.bl _)⟩
    · exact q.elim
  · exact q.elim
theorem room_in {A : Around} {xs : List PyData} {d : PyData} (hd : SeqAt.shaped d = true) (hu : A.units + 65 < cLine) : A.units + 1 + min (PyData.depthAll xs) d.depth < cLine := by
  have h1 := SeqAt.depth_of_shaped hd
  have h2 : min (PyData.depthAll xs) d.depth ≤ d.depth := Nat.min_le_right _ _
  omega
theorem oz_in (hu : X.A.units + 65 < cLine) : OpZ X (compareOp .In) (oInD false) := fun pins s σ H x y v u Q I rx ry ⟨c, vars, st, σ', dx, dy, hw, hm, rel, r1, r2, q⟩ => by
  unfold oInD at q
  split at q
  · rename_i a bs ha hb
    split at q
    · rename_i hz
      rw [Bool.and_eq_true] at hz
      obtain ⟨as1, R1⟩ := Dp.reads I _ _ _ (der_dp (K := X.K) rel.toRelS r1 ha) rx
      obtain ⟨as2, R2⟩ := Dp.reads I _ _ _ (der_dp (K := X.K) rel.toRelS r2 hb) ry
      exact SeqAt.in_list_reads R2 R1 hz.2 (SeqAt.canLay_of_shaped hz.1) (room_in hz.1 hu) ⟨.bl _, H, I, rfl, q _ c H (Wd.le.refl _) rel (.bl _)⟩
    · exact q.elim
  · rename_i a bs ha hb
    split at q
    · rename_i hz
      rw [Bool.and_eq_true] at hz
      obtain ⟨as1, R1⟩ := Dp.reads I _ _ _ (der_dp (K := X.K) rel.toRelS r1 ha) rx
      obtain ⟨as2, R2⟩ := Dp.reads I _ _ _ (der_dp (K := X.K) rel.toRelS r2 hb) ry
      exact SeqAt.in_tuple_reads R2 R1 hz.2 (SeqAt.canLay_of_shaped hz.1) (room_in hz.1 hu) ⟨.bl _, H, I, rfl, q _ c H (Wd.le.refl _) rel (.bl _)⟩
    · exact q.elim
  · exact q.elim
theorem oz_notIn (hu : X.A.units + 65 < cLine) : OpZ X (compareOp .NotIn) (oInD true) := fun pins s σ H x y v u Q I rx ry ⟨c, vars, st, σ', dx, dy, hw, hm, rel, r1, r2, q⟩ => by
  unfold oInD at q
  split at q
  · rename_i a bs ha hb
    split at q
    · rename_i hz
      rw [Bool.and_eq_true] at hz
      obtain ⟨as1, R1⟩ := Dp.reads I _ _ _ (der_dp (K := X.K) rel.toRelS r1 ha) rx
      obtain ⟨as2, R2⟩ := Dp.reads I _ _ _ (der_dp (K := X.K) rel.toRelS r2 hb) ry
      exact SeqAt.notIn_list_reads R2 R1 hz.2 (SeqAt.canLay_of_shaped hz.1) (room_in hz.1 hu) ⟨.bl _, H, I, rfl, q _ c H (Wd.le.refl _) rel (.bl _)⟩
    · exact q.elim
  · rename_i a bs ha hb
    split at q
    · rename_i hz
      rw [Bool.and_eq_true] at hz
      obtain ⟨as1, R1⟩ := Dp.reads I _ _ _ (der_dp (K := X.K) rel.toRelS r1 ha) rx
      obtain ⟨as2, R2⟩ := Dp.reads I _ _ _ (der_dp (K := X.K) rel.toRelS r2 hb) ry
      exact SeqAt.notIn_tuple_reads R2 R1 hz.2 (SeqAt.canLay_of_shaped hz.1) (room_in hz.1 hu) ⟨.bl _, H, I, rfl, q _ c H (Wd.le.refl _) rel (.bl _)⟩
    · exact q.elim
  · exact q.elim

/-! ### is None, is True -/
def dNon : D → Bool
  | .non => true
  | _ => false
def oIsN (neg : Bool) : D → Sto → R := fun x st => .ok (.bl (if neg then !dNon x else dNon x)) st
theorem RV.non_iff {c : Wd} {v : V} {d : D} (r : RV c v d) : decide (v = .non) = dNon d := by
  cases r <;> first | rfl | (simp [dNon])
theorem de_isN {j pos'} (ha : DE X W a fa) : DE X W (.Compare a [.Is] [.Constant .none j pos'] pos) (zUn (oIsN false) fa) := (pe_cmp (pc_isN ha) rfl).imp fun σ H Q ⟨c, vars, st, hw, hm, rel, q⟩ =>
  ⟨c, vars, st, hw, hm, rel, (PostE.bind q).imp fun v H1 ⟨c1, d, st1, l1, r1, rv, p1⟩ => by
    rw [rv.non_iff]
    exact p1 _ c1 H1 (Wd.le.refl _) r1 (.bl _)⟩
theorem de_notN {j pos'} (ha : DE X W a fa) : DE X W (.Compare a [.IsNot] [.Constant .none j pos'] pos) (zUn (oIsN true) fa) := (pe_cmp (pc_notN ha) rfl).imp fun σ H Q ⟨c, vars, st, hw, hm, rel, q⟩ =>
  ⟨c, vars, st, hw, hm, rel, (PostE.bind q).imp fun v H1 ⟨c1, d, st1, l1, r1, rv, p1⟩ => by
    rw [rv.non_iff]
    exact p1 _ c1 H1 (Wd.le.refl _) r1 (.bl _)⟩
def oIsB (neg : Bool) : Op2 := fun x y st => match x, y with
  | .bl a, .bl b => .ok (.bl (if neg then !decide (a = b) else decide (a = b))) st
  | _, _ => .stuck
theorem oz_is : OpZ X (compareOp .Is) (oIsB false) := fun pins s σ H x y v u Q I rx ry ⟨c, vars, st, σ', dx, dy, hw, hm, rel, r1, r2, q⟩ => by
  unfold oIsB at q
  split at q
  · cases r1; cases r2
    exact op_is_bl pins s σ H _ _ v u Q I rx ry ⟨_, _, rfl, rfl, q _ c H (Wd.le.refl _) rel (.bl _)⟩
  · exact q.elim
theorem oz_isnot : OpZ X (compareOp .IsNot) (oIsB true) := fun pins s σ H x y v u Q I rx ry ⟨c, vars, st, σ', dx, dy, hw, hm, rel, r1, r2, q⟩ => by
  unfold oIsB at q
  split at q
  · cases r1; cases r2
    exact op_isnot_bl pins s σ H _ _ v u Q I rx ry ⟨_, _, rfl, rfl, q _ c H (Wd.le.refl _) rel (.bl _)⟩
  · exact q.elim

/-! ### truth -/
def truD : D → Option Bool
  | .non => some false
  | .bl b => some b
  | .int i => some (i != 0)
  | .str x => if x.length ≤ sizeLine then some ((x.length : Int) != 0) else none
  | .tup ds => some (!ds.isEmpty)
  | .lst ds => some (!ds.isEmpty)
  | _ => none
def oTru : D → Sto → R := fun x st => match truD (der st x) with
  | some b => .ok (.bl b) st
  | none => .stuck
theorem RVs.isEmpty {c : Wd} {vs : List V} {ds : List D} (r : RVs c vs ds) : vs.isEmpty = ds.isEmpty := by cases r <;> rfl
theorem tru_of {K : PySem.W.Frag} {c : Wd} {st : Sto} {H : Hp} {v : V} {d : D} {b : Bool} (r : RelS c st H) (rv : RV c v d) (h : truD (der st d) = some b) : TruV K v H b := by
  have lstT : ∀ {a : Addr} {vs : List V} {ds : List D}, H a = some (.lst vs) → RVs c vs ds → truD (.lst ds) = some b → TruV K (.ref a) H b := fun {a vs ds} e s q => by
    simp only [truD, Option.some.injEq] at q
    exact .inl ⟨vs, SqL.of e, by rw [s.isEmpty]; exact q.symm⟩
  rcases der_rv r rv with rv | ⟨n, a, _, _, rfl, _, _, _, l⟩
  rotate_left
  · generalize der st d = cc at h l
    cases cc with
    | lst ds => obtain ⟨vs, l1, l2⟩ := l; exact lstT l1 l2 h
    | dct ks vs => cases h
    | ins cn ns ds => cases h
    | _ => exact l.elim
  generalize der st d = d at h rv
  cases rv with
  | loc => cases h
  | non => cases (show some false = some b from h); rfl
  | bl x => cases (show some x = some b from h); rfl
  | int i => cases (show some (i != 0) = some b from h); rfl
  | str x =>
    have h' : (if x.length ≤ sizeLine then some ((x.length : Int) != 0) else none) = some b := h
    split at h'
    · rename_i hz
      exact ⟨hz, (Option.some.inj h').symm⟩
    · cases h'
  | tup g s =>
    have q : some (!(_ : List D).isEmpty) = some b := h
    exact .inr (.inl ⟨_, SqT.of (r.ext _ _ g), by rw [s.isEmpty]; exact (Option.some.inj q).symm⟩)
  | lst g s => exact lstT (r.ext _ _ g) s h
  | dct => cases (show (none : Option Bool) = some b from h)
  | ins => cases (show (none : Option Bool) = some b from h)
  | fn => cases (show (none : Option Bool) = some b from h)
  | scr => cases (show (none : Option Bool) = some b from h)
theorem dt_tru (h : DE X W e f) (he : ∀ whole, isTrue e X.env whole = (do let v ← whole; standAt e.pos; holding [v] (truthy v)) := by intro _; rfl) : DT X W e (zUn oTru f) := (pt_truth h he).imp fun σ H Q ⟨c, vars, st, hw, hm, rel, q⟩ =>
  ⟨c, vars, st, hw, hm, rel, (PostT.bind q).imp fun v H1 ⟨c1, d, st1, l1, r1, rv, p1⟩ => by
    unfold oTru at p1
    split at p1
    · rename_i b hb
      exact ⟨b, tru_of r1.toRelS rv hb, p1 c1 H1 (Wd.le.refl _) r1⟩
    · exact p1.elim⟩

/-! ### subscripts -/
def oIx : Op2 := fun x y st => match der st x, y with
  | .lst ds, .int i => match atI ds i with
    | some d => .ok d st
    | none => .stuck
  | .tup ds, .int i => match atI ds i with
    | some d => .ok d st
    | none => .stuck
  | .str z, .int i => match atI z.cps.toList i with
    | some k => if z.length ≤ sizeLine then .ok (.str ⟨#[k]⟩) st else .stuck
    | none => .stuck
  | .scr ds, .int i => match atI ds i with
    | some d => .ok d st
    | none => .stuck
  | _, _ => .stuck
theorem der_scr {c : Wd} {st : Sto} {H : Hp} {x : V} {d : D} {ds : List D} (r : RelS c st H) (rv : RV c x d) (e : der st d = .scr ds) : ∃ a vs, x = .ref a ∧ SqL c.K H a vs ∧ RVs c vs ds := by
  rcases der_rv r rv with rv | ⟨n, a, _, _, rfl, _, _, _, l⟩
  · rw [e] at rv
    cases rv with
    | scr h1 h2 => exact ⟨_, _, rfl, r.ext.sqL h1, h2⟩
  · rw [e] at l
    exact l.elim
theorem RVs.atI {c : Wd} {vs : List V} {ds : List D} {i : Int} {d : D} (r : RVs c vs ds) (h : L2.atI ds i = some d) : ∃ v, L2.atI vs i = some v ∧ RV c v d := by
  unfold L2.atI at h ⊢
  rw [r.length]
  cases e : ixN ds.length i with
  | none => rw [e] at h; cases h
  | some j =>
    rw [e] at h
    obtain ⟨v, e1, e2⟩ := r.get (show ds[j]? = some d from h)
    exact ⟨v, e1, e2⟩
theorem der_str {st : Sto} {c : Wd} {H : Hp} {v : V} {d : D} {z : Str} (r : RelS c st H) (rv : RV c v d) (e : der st d = .str z) : v = .str z := by
  rcases der_rv r rv with rv | ⟨n, a, _, _, rfl, _, _, _, l⟩
  · rw [e] at rv
    cases rv with
    | str x => rfl
  · rw [e] at l
    exact l.elim
theorem ix_z : IxR X (zOp X.w (Cx.bs X) oIx) := fun e1 e2 pins s σ H x y v u Q I rx ry ⟨c, vars, st, σ', dx, dy, hw, hm, rel, r1, r2, q⟩ hsub => by
  unfold oIx at q
  split at q
  · rename_i ds i e
    cases r2
    split at q
    · rename_i d hd
      obtain ⟨a, vs, rfl, e1, s1⟩ := der_lst rel.toRelS r1 e
      obtain ⟨w', e2, rw'⟩ := s1.atI hd
      exact ix_list _ _ pins s σ H _ _ v u Q I rx ry ⟨a, vs, i, w', rfl, rfl, SqL.of e1, e2, q _ c H (Wd.le.refl _) rel rw'⟩ hsub
    · exact q.elim
  · rename_i ds i e
    cases r2
    split at q
    · rename_i d hd
      obtain ⟨a, vs, rfl, e1, s1⟩ := der_tup rel.toRelS r1 e
      obtain ⟨w', e2, rw'⟩ := s1.atI hd
      exact ix_tup _ _ pins s σ H _ _ v u Q I rx ry ⟨a, vs, i, w', rfl, rfl, SqT.of e1, e2, q _ c H (Wd.le.refl _) rel rw'⟩ hsub
    · exact q.elim
  · rename_i z i e
    cases r2
    split at q
    · rename_i k hk
      split at q
      · rename_i hz
        cases der_str rel.toRelS r1 e
        exact ix_str _ _ pins s σ H _ _ v u Q I rx ry ⟨z, i, k, rfl, rfl, hz, hk, q _ c H (Wd.le.refl _) rel (.str _)⟩ hsub
      · exact q.elim
    · exact q.elim
  · rename_i ds i e
    cases r2
    split at q
    · rename_i d hd
      obtain ⟨a, vs, rfl, e1, s1⟩ := der_scr rel.toRelS r1 e
      obtain ⟨w', e2, rw'⟩ := s1.atI hd
      have hK : c.K = X.K := congrArg Bs.K hm
      exact ix_list _ _ pins s σ H _ _ v u Q I rx ry ⟨a, vs, i, w', rfl, rfl, by rw [← hK]; exact e1, e2, q _ c H (Wd.le.refl _) rel rw'⟩ hsub
    · exact q.elim
  · exact q.elim
theorem PostE.bindQ {W : WX} {c : Wd} {vars : Vars} {σ : L2.St} {Q : VK} {op : Op2} {x y : D} {st : Sto} (p : PostE W c vars σ Q (qOp op x y st)) : PostE (fun _ _ _ _ => False) c vars σ Q (op x y st) := by
  unfold qOp at p
  cases e : op x y st with
  | ok d st => rw [e] at p; exact p
  | rz x st => rw [e] at p; exact p.elim
  | stuck => rw [e] at p; exact p
theorem ent_bin' {W : WX} {w : World} {mg : Md} {op : Op2} {σ : L2.St} {H : Hp} {Q : VK} (h : zE w mg W (zBin (qOp op) fa fb) σ H Q) : tOp (zOp w mg.b op) (zE w mg W fa) (zE w mg W fb) σ H Q :=
  let ⟨c, vars, st, hw, hm, rel, q⟩ := h
  ⟨c, vars, st, hw, hm, rel, (PostE.bind q).imp fun v H1 ⟨c1, d, st1, l1, r1, rv, p1⟩ =>
    ⟨c1, vars, st1, l1.w.trans hw, l1.md.trans hm, r1, (PostE.bind p1).imp fun u H2 ⟨c2, e, st2, l2, r2, ru, p2⟩ =>
      ⟨c2, vars, st2, σ, d, e, (l2.w.trans l1.w).trans hw, (l2.b.trans l1.b).trans (mgo hm), r2, rv.mono l2, ru, PostE.bindQ p2⟩⟩⟩
theorem de_ix (ha : DE X W a fa) (hb : DE X W b fb) (hs : PlainIx b := by exact fun _ _ => rfl) : DE X W (.Subscript a b pos) (zBin (qOp oIx) fa fb) := (pe_ix ix_z ha hb hs).imp fun _ _ _ => ent_bin'

/-! ### slices -/
def zPart (f : Option ZE) (vars : Vars) (st : Sto) (k : Option Int → Sto → R) : R := match f with
  | none => k none st
  | some f => (f vars st).bind fun d st => match d with
    | .int i => k (some i) st
    | _ => .stuck
def cutD (ds : List D) (lo hi : Option Int) : List D := (ds.drop (HT.sIx ds.length 0 lo)).take (HT.sIx ds.length ds.length hi - HT.sIx ds.length 0 lo)
def oSl (m : Bool) (x : D) (lo hi : Option Int) (st : Sto) : R := match der st x with
  | .lst ds => newD m (.lst (cutD ds lo hi)) st
  | .tup ds => .ok (.tup (cutD ds lo hi)) st
  | .str z => if z.length ≤ sizeLine then .ok (.str (cutS z lo hi)) st else .stuck
  | _ => .stuck
def zSl (m : Bool) (f : ZE) (lo hi : Option ZE) : ZE := fun vars st => (f vars st).bind fun x st => zPart lo vars st fun i st => zPart hi vars st fun j st => oSl m x i j st
theorem RVs.cut {c : Wd} {vs : List V} {ds : List D} (r : RVs c vs ds) (lo hi : Option Int) : RVs c (cutV vs lo hi) (cutD ds lo hi) := by
  unfold cutV cutD
  rw [r.length]
  exact (r.drop _).take _
def zOsl (w : World) (mg : Bs) (m : Bool) : V → Option Int → Option Int → Hp → VK → Prop := fun x lo hi H Q => ∃ c vars st σ dx, c.w = w ∧ c.b = mg ∧ Rel c vars st σ H ∧ RV c x dx ∧ PostE (fun _ _ _ _ => False) c vars σ Q (oSl m dx lo hi st)
theorem sl_z (m : Bool) : SlR X (zOsl X.w (Cx.bs X) m) := fun pins s σ H x v vl vu lo hi sl Q I rx hs pl pu ⟨c, vars, st, σ', dx, hw, hm, rel, r1, q⟩ => by
  unfold oSl at q
  split at q
  · rename_i ds e
    obtain ⟨a, vs, rfl, e1, s1⟩ := der_lst rel.toRelS r1 e
    exact sl_list pins s σ H _ v vl vu lo hi sl Q I rx hs pl pu ⟨a, vs, rfl, SqL.of e1, fun p hp => new_lst rel (s1.cut lo hi) hp q⟩
  · rename_i ds e
    obtain ⟨a, vs, rfl, e1, s1⟩ := der_tup rel.toRelS r1 e
    refine sl_tupA pins s σ H _ v vl vu lo hi sl Q I rx hs pl pu ⟨a, vs, rfl, SqT.of e1, fun ⟨h1, h2⟩ => ?_, fun _ p hp => new_tup rel (s1.cut lo hi) hp q⟩
    have ec : cutD ds lo hi = ds := by
      unfold cutD
      rw [← s1.length, h1, h2, s1.length]
      simp
    rw [ec] at q
    have r1' : RV c (.ref a) (.tup ds) := by
      rcases der_rv rel.toRelS r1 with rv | ⟨n, a, _, _, _, _, _, _, l⟩
      · rw [e] at rv; exact rv
      · rw [e] at l; exact l.elim
    exact q _ c H (Wd.le.refl _) rel r1'
  · rename_i z e
    split at q
    · rename_i hz
      cases der_str rel.toRelS r1 e
      exact sl_str pins s σ H _ v vl vu lo hi sl Q I rx hs pl pu ⟨z, rfl, hz, q _ c H (Wd.le.refl _) rel (.str _)⟩
    · exact q.elim
  · exact q.elim
theorem oSl_quiet {W : WX} {m : Bool} {c : Wd} {vars : Vars} {σ : L2.St} {Q : VK} {x : D} {lo hi : Option Int} {st : Sto} (p : PostE W c vars σ Q (oSl m x lo hi st)) : PostE (fun _ _ _ _ => False) c vars σ Q (oSl m x lo hi st) := by
  unfold oSl newD at p ⊢
  split at p
  · cases m <;> exact p
  · exact p
  · split at p
    · rename_i hz; rw [if_pos hz]; exact p
    · exact False.elim p
  · exact False.elim p
/-- a part of a slice -/
structure DO (X : Cx) (W : WZ) (e : Option Expr) (f : Option ZE) : Prop where
  ex : ∃ t : TO, PO X e t ∧ (∀ σ H (Q Q' : Option Int → Hp → Prop), t σ H Q → (∀ i H', Q i H' → Q' i H') → t σ H Q') ∧ ∀ (c : Wd) (vars : Vars) (st : Sto) (σ : L2.St) (H : Hp) (k : Option Int → Sto → R) (Q : VK), c.w = X.w → c.md = Cx.md X W → Rel c vars st σ H → PostE W.x c vars σ Q (zPart f vars st k) →
    t σ H fun i H' => ∃ c' st', c.le c' ∧ Rel c' vars st' σ H' ∧ PostE W.x c' vars σ Q (k i st')
theorem do_none : DO X W none none := ⟨_, po_none, fun _ _ _ _ q h => h _ _ q, fun c vars st σ H k Q hw hm rel q => ⟨c, st, Wd.le.refl _, rel, q⟩⟩
theorem do_some (h : DE X W e f) : DO X W (some e) (some f) := ⟨_, po_some h, fun σ H Q Q' ⟨c, vars, st, hw, hm, rel, q⟩ h => ⟨c, vars, st, hw, hm, rel, q.imp fun v H1 ⟨i, e, p⟩ => ⟨i, e, h _ _ p⟩⟩, fun c vars st σ H k Q hw hm rel q => ⟨c, vars, st, hw, hm, rel, (PostE.bind q).imp fun v H1 ⟨c1, d, st1, l1, r1, rv, p1⟩ => by
  cases rv with
  | int i => exact ⟨i, rfl, c1, st1, l1, r1, p1⟩
  | _ => exact p1.elim⟩⟩
theorem de_sl (m : Bool) {lo hi : Option Expr} {flo fhi : Option ZE} {p2 : Pos} (h : DE X W e f) (hl : DO X W lo flo) (hh : DO X W hi fhi) : DE X W (.Subscript e (.Slice lo hi none p2) pos) (zSl m f flo fhi) := by
  obtain ⟨tl, pl, ml, el⟩ := hl.ex
  obtain ⟨th, ph, mh, eh⟩ := hh.ex
  refine (pe_slice (sl_z m) h pl ph).imp fun σ H Q ⟨c, vars, st, hw, hm, rel, q⟩ => ⟨c, vars, st, hw, hm, rel, (PostE.bind q).imp fun v H1 ⟨c1, d, st1, l1, r1, rv, p1⟩ => ?_⟩
  have w1 := l1.w.trans hw
  have m1 := l1.md.trans hm
  refine ml _ _ _ _ (el c1 vars st1 σ H1 _ Q w1 m1 r1 p1) fun i H2 ⟨c2, st2, l2, r2, p2⟩ => ?_
  refine mh _ _ _ _ (eh c2 vars st2 σ H2 _ Q (l2.w.trans w1) (l2.md.trans m1) r2 p2) fun j H3 ⟨c3, st3, l3, r3, p3⟩ => ?_
  exact ⟨c3, vars, st3, σ, d, l3.w.trans (l2.w.trans w1), l3.b.trans (l2.b.trans (mgo m1)), r3, (rv.mono l2).mono l3, oSl_quiet p3⟩
end
end Zl

set_option Elab.async false
set_option linter.all false
set_option maxRecDepth 100000
set_option maxHeartbeats 1000000
/-! Layer Z, part 4: targets, statements, loops. -/
namespace Zl
open PySem PySem.Spec PyProof.Rows L2

/-! ### targets -/
abbrev ZG := D → Vars → Option Vars
abbrev ZGs := List D → Vars → Option Vars
def gN (i : Nat) : ZG := fun d vars => some (vars.set i (some d))
def gT (gs : ZGs) : ZG := fun d vars => match d with
  | .tup ds => gs ds vars
  | _ => none
def gNilZ : ZGs := fun ds vars => match ds with
  | [] => some vars
  | _ => none
def gConsZ (g : ZG) (gs : ZGs) : ZGs := fun ds vars => match ds with
  | d :: ds => match g d vars with
    | some vars' => gs ds vars'
    | none => none
  | [] => none
/-- the slots but these are as they were -/
def But (ws : List Nat) (σ σ' : L2.St) : Prop := σ'.length = σ.length ∧ ∀ i, i ∉ ws → σ'[i]? = σ[i]?
theorem But.refl {ws : List Nat} {σ : L2.St} : But ws σ σ := ⟨rfl, fun _ _ => rfl⟩
theorem But.trans {ws : List Nat} {a b c : L2.St} (x : But ws a b) (y : But ws b c) : But ws a c := ⟨y.1.trans x.1, fun i h => (y.2 i h).trans (x.2 i h)⟩
theorem But.mono {ws us : List Nat} {a b : L2.St} (x : But ws a b) (h : ∀ i ∈ ws, i ∈ us) : But us a b := ⟨x.1, fun i hi => x.2 i fun z => hi (h i z)⟩
theorem wipe_get {σ : L2.St} : ∀ {vs : List Nat} {i : Nat}, (wipe σ vs)[i]? = if i ∈ vs ∧ i < σ.length then some none else σ[i]?
  | [], i => by simp [wipe]
  | v :: vs, i => by
    unfold wipe
    have hl := wipe_length σ vs
    by_cases h : v = i
    · subst h
      by_cases hv : v < σ.length
      · rw [List.getElem?_set_self (by omega), if_pos ⟨by simp, hv⟩]
      · rw [List.getElem?_eq_none (by simp; omega), if_neg (fun z => hv z.2), List.getElem?_eq_none (by omega)]
    · rw [List.getElem?_set_ne h, wipe_get]
      have e : (i ∈ v :: vs ∧ i < σ.length) ↔ (i ∈ vs ∧ i < σ.length) := by
        simp only [List.mem_cons]
        constructor
        · rintro ⟨z | z, q⟩
          · exact absurd z.symm h
          · exact ⟨z, q⟩
        · rintro ⟨z, q⟩; exact ⟨.inr z, q⟩
      by_cases hq : i ∈ vs ∧ i < σ.length
      · rw [if_pos hq, if_pos (e.mpr hq)]
      · rw [if_neg hq, if_neg (fun z => hq (e.mp z))]
theorem But.wipe {ws : List Nat} {σ σ' : L2.St} (b : But ws σ σ') : L2.wipe σ' ws = L2.wipe σ ws := by
  apply List.ext_getElem?
  intro i
  rw [wipe_get, wipe_get, b.1]
  by_cases h : i ∈ ws
  · by_cases q : i < σ.length
    · rw [if_pos ⟨h, q⟩, if_pos ⟨h, q⟩]
    · rw [if_neg (fun z => q z.2), if_neg (fun z => q z.2), List.getElem?_eq_none (by have := b.1; omega), List.getElem?_eq_none (by omega)]
  · rw [if_neg (fun z => h z.1), if_neg (fun z => h z.1), b.2 i h]
def zTG (w : World) (mg : Bs) (ws : List Nat) (g : ZG) : TG := fun v σ H Q => ∃ c vars vars' st d, c.w = w ∧ c.b = mg ∧ Rel c vars st σ H ∧ RV c v d ∧ g d vars = some vars' ∧
  ∀ c' σ' H', c.le c' → Rel c' vars' st σ' H' → But ws σ σ' → Q σ' H'
def zTGs (w : World) (mg : Bs) (ws : List Nat) (g : ZGs) : TGs := fun vs σ H Q => ∃ c vars vars' st ds, c.w = w ∧ c.b = mg ∧ Rel c vars st σ H ∧ RVs c vs ds ∧ g ds vars = some vars' ∧
  ∀ c' σ' H', c.le c' → Rel c' vars' st σ' H' → But ws σ σ' → Q σ' H'
abbrev DG (X : Cx) (ws : List Nat) (tg : Expr) (g : ZG) : Prop := PG X tg (zTG X.w (Cx.bs X) ws g)
abbrev DGs (X : Cx) (ws : List Nat) (tg : List Expr) (g : ZGs) : Prop := PGs X tg (zTGs X.w (Cx.bs X) ws g)
theorem _root_.L2.PG.imp {X : Cx} {e : Expr} {t t' : TG} (h : PG X e t) (i : ∀ v σ H Q, t' v σ H Q → t v σ H Q) : PG X e t' := ⟨fun pins s σ H v u Q I r q => h.run pins s σ H v u Q I r (i v σ H Q q)⟩
theorem _root_.L2.PGs.imp {X : Cx} {e : List Expr} {t t' : TGs} (h : PGs X e t) (i : ∀ v σ H Q, t' v σ H Q → t v σ H Q) : PGs X e t' := ⟨fun pins s σ H v u Q I r q => h.run pins s σ H v u Q I r (i v σ H Q q)⟩
theorem Rel.set {c : Wd} {vars : Vars} {st : Sto} {σ : L2.St} {H : Hp} (r : Rel c vars st σ H) (i : Nat) {v : V} {d : D} (rv : RV c v d) : Rel c (vars.set i (some d)) st (σ.set i (some v)) H :=
  { r.toRelS with
    vlen := by simp [r.vlen]
    vars := fun j e h => by
      by_cases q : i = j
      · subst q
        have hl : i < vars.length := by
          have := (List.getElem?_eq_some_iff.mp h).1
          simpa using this
        rw [List.getElem?_set_self hl] at h
        cases h
        exact ⟨v, by rw [List.getElem?_set_self (Nat.lt_of_lt_of_le hl r.vlen)], rv⟩
      · rw [List.getElem?_set_ne q] at h
        obtain ⟨u, e1, e2⟩ := r.vars j e h
        exact ⟨u, by rw [List.getElem?_set_ne q]; exact e1, e2⟩ }
section
variable {X : Cx} {ws : List Nat} {pos : Pos}
theorem dg_name {i : Nat} {x : Str} (hw : i ∈ ws) (hN : X.N.Nodup) (hi : X.N[i]? = some x := by rfl) (hx : Loc X.env.scope x := by first | exact Or.inl rfl | exact Or.inr rfl) (hf : X.fn x = true ∨ X.env.scope.names.lookup x = some .local := by first | exact .inl rfl | exact .inr rfl) : DG X ws (.Name x pos) (gN i) :=
  (pg_name hN hi hx hf).imp fun v σ H Q ⟨c, vars, vars', st, d, hw', hm, rel, rv, e, q⟩ => by
    cases (show some (vars.set i (some d)) = some vars' from e)
    refine q c _ H (Wd.le.refl _) (rel.set i rv) ⟨by simp, fun j hj => List.getElem?_set_ne ?_⟩
    intro z
    exact hj (z ▸ hw)
theorem dgs_nil : DGs X ws [] gNilZ := pgs_nil.imp fun vs σ H Q ⟨c, vars, vars', st, ds, hw, hm, rel, rv, e, q⟩ => by
  unfold gNilZ at e
  split at e
  · cases e
    cases rv
    exact ⟨rfl, q c σ H (Wd.le.refl _) rel But.refl⟩
  · cases e
theorem dgs_cons {e : Expr} {es : List Expr} {g : ZG} {gs : ZGs} (h1 : DG X ws e g) (h2 : DGs X ws es gs)
    (hs : (assignEach (e :: es) X.env).map (·.2) = assign e X.env :: (assignEach es X.env).map (·.2) := by rfl) : DGs X ws (e :: es) (gConsZ g gs) := (pgs_cons h1 h2 hs).imp fun vs σ H Q ⟨c, vars, vars', st, ds, hw, hm, rel, rv, e, q⟩ => by
  unfold gConsZ at e
  split at e
  · rename_i d ds
    split at e
    · rename_i vars1 e1
      cases rv with
      | cons r1 r2 =>
        refine ⟨_, _, rfl, c, vars, vars1, st, d, hw, hm, rel, r1, e1, fun c1 σ1 H1 l1 rel1 b1 => ?_⟩
        exact ⟨c1, vars1, vars', st, ds, l1.w.trans hw, l1.b.trans hm, rel1, r2.mono l1, e, fun c2 σ2 H2 l2 rel2 b2 => q c2 σ2 H2 (l1.trans l2) rel2 (b1.trans b2)⟩
    · cases e
  · cases e
theorem dg_tup {es : List Expr} {k : Nat} {gs : ZGs} {n : Nat} (hc : X.calm = true) (h : DGs X ws es gs) (hl : ∀ ds vars vars', gs ds vars = some vars' → ds.length = n)
    (hn : (assignEach es X.env).length = n := by rfl) (hst : (assignEach es X.env).findIdx? (·.1) = none := by rfl) : DG X ws (.Tuple es k pos) (gT gs) := (pg_tup hc h hn hst).imp fun v σ H Q ⟨c, vars, vars', st, d, hw, hm, rel, rv, e, q⟩ => by
  unfold gT at e
  split at e
  · rename_i ds
    cases rv with
    | tup g s =>
      exact ⟨_, _, rfl, SqT.of (rel.ext _ _ g), by rw [s.length]; exact hl _ _ _ e, c, vars, vars', st, ds, hw, hm, rel, s, e, q⟩
  · cases e
end
theorem gl_nil : ∀ ds vars vars', gNilZ ds vars = some vars' → ds.length = 0 := fun ds vars vars' e => by
  unfold gNilZ at e
  split at e
  · rfl
  · cases e
theorem gl_cons {g : ZG} {gs : ZGs} {n : Nat} (h : ∀ ds vars vars', gs ds vars = some vars' → ds.length = n) : ∀ ds vars vars', gConsZ g gs ds vars = some vars' → ds.length = n + 1 := fun ds vars vars' e => by
  unfold gConsZ at e
  split at e
  · split at e
    · rw [List.length_cons, h _ _ _ e]
    · cases e
  · cases e

/-! ### small statements -/
def sSeq (f g : ZS) : ZS := fun vars st => (f vars st).bind g
def sNext : ZS := fun vars st => .nx vars st
def sDrop (f : ZE) : ZS := fun vars st => (f vars st).bindS vars fun _ st => .nx vars st
def sRet (f : ZE) : ZS := fun vars st => (f vars st).bindS vars fun d st => .ret d st
def sRetN : ZS := fun _ st => .ret .non st
def sAsg (f : ZE) (g : ZG) : ZS := fun vars st => (f vars st).bindS vars fun d st => match g d vars with
  | some vars' => .nx vars' st
  | none => .stuck
def sIf (t : ZE) (f g : ZS) : ZS := fun vars st => (t vars st).tstS vars fun b st => if b = true then f vars st else g vars st
def sBrk : ZS := fun vars st => .bk vars st
def sCnt : ZS := fun vars st => .ct vars st
theorem PostS.next {W : WX} {c : Wd} {E : Ends} {r : Rs} {k : ZS} (p : PostS W c E (r.bind k)) :
    PostS W c { E with nx := fun σ' H' => ∃ c' vars st, c.le c' ∧ Rel c' vars st σ' H' ∧ PostS W c' E (k vars st) } r := by
  cases r with
  | nx vars st => exact fun c2 s2 H2 l r => ⟨c2, vars, st, l, r, PostS.mono l p⟩
  | ret d st => exact p
  | bk vars st => exact p
  | ct vars st => exact p
  | rz x vars st => exact p
  | stuck => exact p
theorem PostS.imp {W : WX} {c : Wd} {E E' : Ends} {r : Rs} (p : PostS W c E r) (h1 : ∀ σ H, E.nx σ H → E'.nx σ H) (h2 : ∀ v H, E.rt v H → E'.rt v H) (h3 : ∀ σ H, E.bk σ H → E'.bk σ H) (h4 : ∀ σ H, E.ct σ H → E'.ct σ H) : PostS W c E' r := by
  cases r with
  | nx vars st => exact fun c2 s2 H2 l r => h1 _ _ (p c2 s2 H2 l r)
  | ret d st => exact fun v c2 s2 H2 l r q => h2 _ _ (p v c2 s2 H2 l r q)
  | bk vars st => exact fun c2 s2 H2 l r => h3 _ _ (p c2 s2 H2 l r)
  | ct vars st => exact fun c2 s2 H2 l r => h4 _ _ (p c2 s2 H2 l r)
  | rz x vars st => exact p
  | stuck => exact p
theorem Rel.drop {c : Wd} {vars : Vars} {st : Sto} {σ : L2.St} {H : Hp} (r : Rel c vars st σ H) : Rel c [] st σ H := { r.toRelS with vlen := Nat.zero_le _, vars := fun i d h => by simp at h }
section
variable {X : Cx} {W : WZ} {s : Stmt} {ss : List Stmt} {e t : Expr} {f ft : ZE} {fs gs : ZS} {g : ZG} {pos : Pos}
theorem ds_cons (h1 : DS X W s fs) (h2 : DSs X W ss gs) : DSs X W (s :: ss) (sSeq fs gs) := (pss_cons h1 h2).imp fun E σ H ⟨c, vars, st, hw, hm, rel, q⟩ =>
  ⟨c, vars, st, hw, hm, rel, (PostS.next q).imp (fun σ' H' ⟨c', vars', st', l, r, p⟩ => ⟨c', vars', st', l.w.trans hw, l.md.trans hm, r, p⟩) (fun _ _ h => h) (fun _ _ h => h) fun _ _ h => h⟩
theorem ds_one (h1 : DS X W s fs) : DSs X W [s] fs := pss_one h1
theorem ds_nil : DSs X W [] sNext := pss_nil.imp fun E σ H ⟨c, vars, st, hw, hm, rel, q⟩ => q c σ H (Wd.le.refl _) rel
theorem ds_pass : DS X W (.Pass pos) sNext := ps_pass.imp fun E σ H ⟨c, vars, st, hw, hm, rel, q⟩ => q c σ H (Wd.le.refl _) rel
theorem ds_break : DS X W (.Break pos) sBrk := ps_break.imp fun E σ H ⟨c, vars, st, hw, hm, rel, q⟩ => q c σ H (Wd.le.refl _) rel
theorem ds_continue : DS X W (.Continue pos) sCnt := ps_continue.imp fun E σ H ⟨c, vars, st, hw, hm, rel, q⟩ => q c σ H (Wd.le.refl _) rel
theorem ds_expr (h : DE X W e f) (hs : swapsWith e none pos.line X.env = pure false := by rfl) : DS X W (.Expr e pos) (sDrop f) := (ps_expr h hs).imp fun E σ H ⟨c, vars, st, hw, hm, rel, q⟩ =>
  ⟨c, vars, st, hw, hm, rel, (PostE.bindS q).imp fun v H' ⟨c', d, st', l, r, rv, p⟩ => p c' σ H' (Wd.le.refl _) r⟩
theorem ds_ret (h : DE X W e f) : DS X W (.Return (some e) pos) (sRet f) := (ps_ret h).imp fun E σ H ⟨c, vars, st, hw, hm, rel, q⟩ =>
  ⟨c, vars, st, hw, hm, rel, (PostE.bindS q).imp fun v H' ⟨c', d, st', l, r, rv, p⟩ => p v c' σ H' (Wd.le.refl _) r.drop rv⟩
theorem ds_retN : DS X W (.Return none pos) sRetN := ps_retN.imp fun E σ H ⟨c, vars, st, hw, hm, rel, q⟩ => q .non c σ H (Wd.le.refl _) rel.drop .non
theorem ds_if {a b : List Stmt} (hc : DT X W t ft) (ha : DSs X W a fs) (hb : DSs X W b gs) : DS X W (.If t a b pos) (sIf ft fs gs) := (ps_if hc ha hb).imp fun E σ H ⟨c, vars, st, hw, hm, rel, q⟩ =>
  ⟨c, vars, st, hw, hm, rel, (PostT.tstS q).imp fun k H' ⟨c', st', l, r, p⟩ => by
    cases k with
    | true => exact iteT ⟨c', vars, st', l.w.trans hw, l.md.trans hm, r, p⟩
    | false => exact iteF ⟨c', vars, st', l.w.trans hw, l.md.trans hm, r, p⟩⟩
theorem ent_asg {W : WX} {w : World} {mg : Md} {ws : List Nat} {E : Ends} {σ : L2.St} {H : Hp} (h : zS w mg W (sAsg f g) E σ H) : tAsg (zE w mg W f) (zTG w mg.b ws g) E σ H := by
  obtain ⟨c, vars, st, hw, hm, rel, q⟩ := h
  refine ⟨c, vars, st, hw, hm, rel, (PostE.bindS q).imp fun v H' ⟨c', d, st', l, r, rv, p⟩ => ?_⟩
  split at p
  · rename_i vars' e
    exact ⟨c', vars, vars', st', d, l.w.trans hw, l.b.trans (mgo hm), r, rv, e, fun c2 σ2 H2 l2 r2 _ => p c2 σ2 H2 l2 r2⟩
  · exact p.elim
theorem ds_asg {ws : List Nat} (he : DE X W e f) (hg : DG X ws t g) (hs : swapsWithSole [t] e pos.line X.env = pure false := by rfl) (hw : swappedStores [t] e X.env = pure none := by rfl)
    (h1 : (assignEach [t] X.env).map (·.2) = [assign t X.env] := by rfl) : DS X W (.Assign [t] e pos) (sAsg f g) := (ps_asg he hg hs hw h1).imp fun E σ H h => ent_asg h
theorem ds_set {i : Nat} {x : Str} {pos' : Pos} (hN : X.N.Nodup) (he : DE X W e f) (hi : X.N[i]? = some x := by rfl) (hx : Loc X.env.scope x := by first | exact Or.inl rfl | exact Or.inr rfl) (hs : swapsWith e (some (.Name x pos')) pos.line X.env = pure false := by rfl) (hf : X.fn x = true ∨ X.env.scope.names.lookup x = some .local := by first | exact .inl rfl | exact .inr rfl) :
    DS X W (.Assign [.Name x pos'] e pos) (sAsg f (gN i)) := (ps_set hN hi hx he hs hf).imp fun E σ H ⟨c, vars, st, hw, hm, rel, q⟩ =>
  ⟨c, vars, st, hw, hm, rel, (PostE.bindS q).imp fun v H' ⟨c', d, st', l, r, rv, p⟩ => p c' _ H' (Wd.le.refl _) (r.set i rv)⟩
/-- a, b = x, y, plain local names -/
def sPar (i j : Nat) (l : ZL) : ZS := fun vars st => match l vars st with
  | .ok [a, b] st => .nx ((vars.set i (some a)).set j (some b)) st
  | .rz x st => .rz x vars st
  | _ => .stuck
theorem ds_par {i j : Nat} {x y : Str} {a b : Expr} {la : ZL} {px py pt : Pos} {kt k2 pt2} (hc : X.calm = true) (hN : X.N.Nodup) (ha : DA X W [a, b] la) (hij : i ≠ j) (hi : X.N[i]? = some x := by rfl) (hj : X.N[j]? = some y := by rfl)
    (hx : X.env.scope.names.lookup x = some .local := by rfl) (hy : X.env.scope.names.lookup y = some .local := by rfl)
    (hw : swappedStores [.Tuple [.Name x px, .Name y py] kt pt] (.Tuple [a, b] k2 pt2) X.env = pure (some [x, y]) := by rfl)
    (hs : swapsWithSole [.Tuple [.Name x px, .Name y py] kt pt] (.Tuple [a, b] k2 pt2) pos.line X.env = pure false := by rfl) :
    DS X W (.Assign [.Tuple [.Name x px, .Name y py] kt pt] (.Tuple [a, b] k2 pt2) pos) (sPar i j la) := (ps_par hc hN hi hj hij hx hy ha hw hs).imp fun E σ H ⟨c, vars, st, hw, hm, rel, q⟩ => by
  refine ⟨c, vars, st, hw, hm, rel, ?_⟩
  unfold sPar at q
  cases e : la vars st with
  | stuck => rw [e] at q; exact q
  | rz x st' => rw [e] at q; exact fun c2 H2 cls dd l r z => q c2 σ H2 cls dd l r z
  | ok ds st' =>
    rw [e] at q
    intro vs c' H' l r rvs
    cases rvs with
    | nil => exact q.elim
    | cons r1 rs =>
      cases rs with
      | nil => exact q.elim
      | cons r2 rs =>
        cases rs with
        | nil => exact ⟨_, _, rfl, q c' _ H' l ((r.set i r1).set j r2)⟩
        | cons r3 rs => exact q.elim
/-- x op= e, x a name -/
def sAug (i : Nat) (op : Op2) (f : ZE) : ZS := fun vars st => match vars[i]? with
  | some (some x) => (f vars st).bindS vars fun y st => ((op x y st).quiet).bindS vars fun z st => .nx (vars.set i (some z)) st
  | _ => .stuck
theorem ds_aug {i : Nat} {x : Str} {op : Operator} {o : Op2} {pos' : Pos} (hN : X.N.Nodup) (he : DE X W e f) (ho : OpZ X (inplaceOp op) o) (hi : X.N[i]? = some x := by rfl) (hx : Loc X.env.scope x := by first | exact Or.inl rfl | exact Or.inr rfl) (hf : X.fn x = true ∨ X.env.scope.names.lookup x = some .local := by first | exact .inl rfl | exact .inr rfl) :
    DS X W (.AugAssign (.Name x pos') op e pos) (sAug i o f) := (ps_aug hN hi hx he (ti := zOp X.w (Cx.bs X) o) ho hf).imp fun E σ H ⟨c, vars, st, hw, hm, rel, q⟩ => by
  unfold sAug at q
  split at q
  · rename_i d hd
    obtain ⟨v, e1, rv⟩ := rel.vars i d hd
    refine ⟨v, e1, c, vars, st, hw, hm, rel, (PostE.bindS q).imp fun u H' ⟨c', y, st', l, r, ry, p⟩ => ?_⟩
    refine ⟨c', vars, st', σ, d, y, l.w.trans hw, l.b.trans (mgo hm), r, rv.mono l, ry, ?_⟩
    have p' := PostE.bindS (σ := σ) p
    cases e : o d y st' with
    | ok z st2 =>
      rw [e] at p'
      intro v2 c2 H2 l2 r2 rv2
      obtain ⟨c3, z3, st3, l3, r3, rv3, p3⟩ := p' v2 c2 H2 l2 r2 rv2
      exact p3 c3 _ H2 (Wd.le.refl _) (r3.set i rv3)
    | rz x st2 => rw [e] at p'; exact p'.elim
    | stuck => rw [e] at p'; exact p'
  · exact q.elim

/-! ### while -/
def zWh (t : ZE) (b : ZS) : Nat → ZS
  | 0 => fun _ _ => .stuck
  | n + 1 => fun vars st => (t vars st).tstS vars fun k st => if k = true then (match b vars st with
    | .nx vars st => zWh t b n vars st
    | .ct vars st => zWh t b n vars st
    | .bk vars st => .nx vars st
    | r => r) else .nx vars st
theorem ds_while {body : List Stmt} (n : Nat) (hp : PassesOwn (model X.prog X.w) X.A X.env X.xe) (hc : DT X W t ft) (hb : DSs X W body fs) : DS X W (.While t body [] pos) (zWh ft fs n) := (ps_while hp hc hb).imp fun E σ H ⟨c, vars, st, hw, hm, rel, q⟩ => by
  refine ⟨fun m σ H => ∃ c vars st, c.w = X.w ∧ c.md = Cx.md X W ∧ Rel c vars st σ H ∧ PostS W.x c E (zWh ft fs m vars st), ⟨n, c, vars, st, hw, hm, rel, q⟩, ?_⟩
  rintro m σ H ⟨c, vars, st, hw, hm, rel, q⟩
  cases m with
  | zero => exact q.elim
  | succ m =>
    refine ⟨c, vars, st, hw, hm, rel, (PostT.tstS q).imp fun k H' ⟨c', st', l, r, p⟩ => ?_⟩
    cases k with
    | false => exact iteF (p c' σ H' (Wd.le.refl _) r)
    | true =>
      refine iteT ⟨fun σ H => ∃ c vars st, c.w = X.w ∧ c.md = Cx.md X W ∧ Rel c vars st σ H ∧ PostS W.x c E (zWh ft fs m vars st), fun σ2 H2 h2 => ⟨m, Nat.lt_succ_self m, h2⟩, c', vars, st', l.w.trans hw, l.md.trans hm, r, ?_⟩
      have p' : PostS W.x c' E (match fs vars st' with
        | .nx vars st => zWh ft fs m vars st
        | .ct vars st => zWh ft fs m vars st
        | .bk vars st => .nx vars st
        | r => r) := by simpa using p
      cases e : fs vars st' with
      | nx v2 s2 => rw [e] at p'; exact fun c2 σ2 H2 l2 r2 => ⟨c2, v2, s2, l2.w.trans (l.w.trans hw), l2.md.trans (l.md.trans hm), r2, PostS.mono l2 p'⟩
      | ct v2 s2 => rw [e] at p'; exact fun c2 σ2 H2 l2 r2 => ⟨c2, v2, s2, l2.w.trans (l.w.trans hw), l2.md.trans (l.md.trans hm), r2, PostS.mono l2 p'⟩
      | bk v2 s2 => rw [e] at p'; exact p'
      | ret d s2 => rw [e] at p'; exact p'
      | rz x v2 s2 => rw [e] at p'; exact p'
      | stuck => rw [e] at p'; exact p'

/-! ### what is walked -/
structure ItOk (c : Wd) (J : It) (items : List D) : Prop where
  step : ∀ (i : Nat) (d : D) (c' : Wd) (st : Sto) (H : Hp), c.leR c' → RelS c' st H → items[i]? = some d → J.go i H ∧ ∀ x H', J.yld i H x H' → ∃ c'', c'.le c'' ∧ RV c'' x d ∧ ∀ vars st σ, Rel c' vars st σ H → Rel c'' vars st σ H'
  stop : ∀ (c' : Wd) (st : Sto) (H : Hp), c.leR c' → RelS c' st H → J.stop items.length H
def PostI (W : WX) (c : Wd) (vars : Vars) (σ : L2.St) (R : It → Hp → Prop) : Rl → Prop
  | .ok items st => ∀ c' H' J, c.le c' → Rel c' vars st σ H' → ItOk c' J items → R J H'
  | .rz x st => Rz W c vars σ x st
  | .stuck => False
def zTI (w : World) (mg : Md) (W : WX) (f : ZL) : TI := fun σ H R => ∃ c vars st, c.w = w ∧ c.md = mg ∧ Rel c vars st σ H ∧ PostI W c vars σ R (f vars st)
abbrev DI (X : Cx) (W : WZ) (tg iter : Expr) (f : ZL) : Prop := PI X tg iter (zTI X.w (Cx.md X W) W.x f)
theorem _root_.L2.PI.imp {X : Cx} {tg e : Expr} {t t' : TI} (h : PI X tg e t) (i : ∀ σ H Q, t' σ H Q → t σ H Q) : PI X tg e t' := ⟨fun pins s σ H Q I q => h.run pins s σ H Q I (i σ H Q q)⟩
def zForL (g : ZG) (b : ZS) : List D → ZS
  | [] => fun vars st => .nx vars st
  | d :: ds => fun vars st => match g d vars with
    | some vars => (match b vars st with
      | .nx vars st => zForL g b ds vars st
      | .ct vars st => zForL g b ds vars st
      | .bk vars st => .nx vars st
      | r => r)
    | none => .stuck
def sFor (fi : ZL) (g : ZG) (b : ZS) : ZS := fun vars st => match fi vars st with
  | .ok items st => zForL g b items vars st
  | .rz x st => .rz x vars st
  | .stuck => .stuck
theorem ds_for {ws : List Nat} {iter : Expr} {body : List Stmt} {fi : ZL} (hp : PassesOwn (model X.prog X.w) X.A X.env X.xe) (hc : X.calm = true) (hi : DI X W t iter fi) (hg : DG X ws t g) (hb : DSs X W body fs)
    (hs : ∀ x, foldedSetIterable iter X.env x = pure x := by intro _; rfl) : DS X W (.For t iter body [] pos) (sFor fi g fs) := (ps_for hp hc hi hg hb hs).imp fun E σ H ⟨c, vars, st, hw, hm, rel, q⟩ => by
  refine ⟨c, vars, st, hw, hm, rel, ?_⟩
  unfold sFor at q
  cases e : fi vars st with
  | stuck => rw [e] at q; exact q
  | rz x st' => rw [e] at q; exact fun c2 H2 cls dd l r z => q c2 σ H2 cls dd l r z
  | ok items st' =>
    rw [e] at q
    intro c1 H1 J l1 r1 ok
    refine ⟨fun i m σ H => m + i = items.length ∧ ∃ c vars st, c1.le c ∧ c.w = X.w ∧ c.md = Cx.md X W ∧ Rel c vars st σ H ∧ PostS W.x c E (zForL g fs (items.drop i) vars st), ⟨items.length, rfl, c1, vars, st', Wd.le.refl _, l1.w.trans hw, l1.md.trans hm, r1, PostS.mono l1 (by simpa using q)⟩, ?_⟩
    rintro i m σ H ⟨hmi, c2, vars2, st2, l2, hw2, hm2, rel2, q2⟩
    cases m with
    | zero =>
      have ei : i = items.length := by omega
      subst ei
      rw [List.drop_length] at q2
      exact .inl ⟨ok.stop c2 st2 H l2.R rel2.toRelS, q2 c2 σ H (Wd.le.refl _) rel2⟩
    | succ m =>
      have hi : i < items.length := by omega
      obtain ⟨go, yl⟩ := ok.step i items[i] c2 st2 H l2.R rel2.toRelS (List.getElem?_eq_getElem hi)
      rw [List.drop_eq_getElem_cons hi] at q2
      unfold zForL at q2
      split at q2
      · rename_i vars3 eg
        refine .inr ⟨go, fun σ H => ∃ c vars st, c1.le c ∧ c.w = X.w ∧ c.md = Cx.md X W ∧ Rel c vars st σ H ∧ PostS W.x c E (zForL g fs (items.drop (i + 1)) vars st), fun σ' H' h' => ⟨m, Nat.lt_succ_self m, by omega, h'⟩, fun x H' hy => ?_⟩
        obtain ⟨c3, l3, rv, up⟩ := yl x H' hy
        refine ⟨c3, vars2, vars3, st2, items[i], l3.w.trans hw2, l3.b.trans (mgo hm2), up _ _ _ rel2, rv, eg, fun c4 σ4 H4 l4 r4 _ => ?_⟩
        have l24 := l3.trans l4
        refine ⟨c4, vars3, st2, l24.w.trans hw2, l24.md.trans hm2, r4, ?_⟩
        cases eb : fs vars3 st2 with
        | nx v5 s5 => rw [eb] at q2; exact fun c5 σ5 H5 l5 r5 => ⟨c5, v5, s5, (l2.trans l24).trans l5, l5.w.trans (l24.w.trans hw2), l5.md.trans (l24.md.trans hm2), r5, PostS.mono (l24.trans l5) q2⟩
        | ct v5 s5 => rw [eb] at q2; exact fun c5 σ5 H5 l5 r5 => ⟨c5, v5, s5, (l2.trans l24).trans l5, l5.w.trans (l24.w.trans hw2), l5.md.trans (l24.md.trans hm2), r5, PostS.mono (l24.trans l5) q2⟩
        | bk v5 s5 => rw [eb] at q2; exact PostS.mono (r := .nx v5 s5) l24 q2
        | ret d s5 => rw [eb] at q2; exact PostS.mono (r := .ret d s5) l24 q2
        | rz x v5 s5 => rw [eb] at q2; exact PostS.mono (r := .rz x v5 s5) l24 q2
        | stuck => rw [eb] at q2; exact q2
      · exact q2.elim
end
end Zl

set_option Elab.async false
set_option linter.all false
set_option maxRecDepth 100000
set_option maxHeartbeats 2000000
/-! Layer Z: any, all of a generator expression whose element may call. -/
namespace Zl
open PySem PySem.Spec PyProof.Rows L2 GenW

/-- the context of a generator expression's turns -/
abbrev gxCx (X : Cx) (Ae : Around) (s4 : Shared) (H4 : Hp) (cenv : Env) (fp : List Addr) (pn : List (Addr × Obj)) : Cx :=
  { X with A := Ae, s_0 := s4, H_0 := H4, env := cenv, outer := X.stack, stack := cenv :: X.stack, ex := fp, fn := fun _ => false, calm := true, pn := pn, xe := fun _ _ => False }
/-- its names -/
structure GxOk (N : List Str) (sc scope : Scope) (own : List (Str × Nat)) : Prop where
  kind : scope.kind = .function
  co : scope.isCoroutine = false
  cell : ∀ y ∈ scope.names, y.2 ≠ .cell
  dot : scope.names.lookup (".0" : Str) = some .local
  ix : ∀ p ∈ own, N[p.2]? = some p.1
  free : ∀ y ∈ scope.names, y.2 = .free → sc.names.lookup y.1 = some .cell ∨ sc.names.lookup y.1 = some .free
  own : ∀ y ∈ scope.names, y.2 = .local → y.1 ∈ own.map (·.1) ∨ y.1 ∉ N
def gxC (N : List Str) (sc scope : Scope) (own : List (Str × Nat)) : Bool :=
  (match scope.kind with | .function => true | _ => false) && !scope.isCoroutine && decide (scope.names.lookup (".0" : Str) = some .local) && (own.all fun p => decide (N[p.2]? = some p.1)) &&
    (scope.names.all fun y => match y.2 with
      | .free => (match sc.names.lookup y.1 with | some .cell => true | some .free => true | _ => false)
      | .local => decide (y.1 ∈ own.map (·.1)) || decide (y.1 ∉ N)
      | .cell => false
      | _ => true)
theorem gxOk_by {N : List Str} {sc scope : Scope} {own : List (Str × Nat)} (h : gxC N sc scope own = true) : GxOk N sc scope own := by
  unfold gxC at h
  simp only [Bool.and_eq_true, List.all_eq_true, decide_eq_true_eq, Bool.not_eq_true'] at h
  obtain ⟨⟨⟨⟨h1, h2⟩, h3⟩, h4⟩, h5⟩ := h
  refine ⟨?_, h2, fun y hy e => ?_, h3, h4, fun y hy e => ?_, fun y hy e => ?_⟩
  · split at h1
    · assumption
    · cases h1
  · have q := h5 y hy
    simp only [e] at q
    cases q
  · have q := h5 y hy
    simp only [e] at q
    split at q <;> first | exact .inl (by assumption) | exact .inr (by assumption) | cases q
  · have q := h5 y hy
    simp only [e, Bool.or_eq_true, decide_eq_true_eq] at q; exact q
section
variable {X : Cx} {pins : List (Addr × Obj)} {σ : L2.St} {H : Hp} {s : Shared}
theorem gx_start {Ae : Around} {scope : Scope} {own : List (Str × Nat)} {fp : List Addr} {code : Value} {it : Value} {h' : Heap} {go : Obj} {s6 : Shared} (I : Inv X pins σ H s) (ok : GxOk X.N X.env.scope scope own) (hN : X.N.Nodup)
    (hfp : ∀ b ∈ fp, FpOk X pins H b ∧ b < s.heap.objs.size) (hAh : Ae.handled = none) (hAf : Ae.frames = some (genEnv scope (cloFrom X.env.cells scope.names []) s.heap.objs.size code builtinsNs X.env :: X.stack))
    (hns : h'.Ns s.heap.objs.size (fun y => if y = ".0" then some it else none)) (hk : ∀ b o, s.heap.get? b = some o → h'.get? b = some o) (hsz : h'.objs.size = s.heap.objs.size + 1)
    (hgo : (h'.push go).get? h'.objs.size = some go) (hgd : ∀ v, go.data ≠ .cell v) (h6 : s6.heap = h'.push go) (ho : s6.os = s.os) (hb : AllBare s6.gens) :
    Inv (gxCx X Ae s H (genEnv scope (cloFrom X.env.cells scope.names []) s.heap.objs.size code builtinsNs X.env) fp [(h'.objs.size, go)]) [] (wipe σ (own.map (·.2))) H s6 := by
  have hfree : ∀ y ∈ scope.names, y.2 = .free → ∃ c, X.env.cells.lookup y.1 = some c := fun y hy e => by
    rcases ok.free y hy e with k | k
    · exact I.ok.has _ (.inl k)
    · exact I.ok.has _ (.inr k)
  have cm : ∀ {y c}, (cloFrom X.env.cells scope.names []).lookup y = some c → X.env.cells.lookup y = some c := fun {y c} e => by
    rcases cloFrom_mem (PySem.mem_of_lookup e) with hm | ⟨h1, h2⟩
    · cases hm
    · obtain ⟨c1, hc⟩ := hfree _ h1 rfl
      have hc : X.env.cells.lookup y = some c1 := hc
      have e2 : c = c1 := by
        rw [h2, hc] <;> rfl
      rw [e2]
      exact hc
  have look : ∀ {y}, scope.names.lookup y = some .free → ∃ c, (cloFrom X.env.cells scope.names []).lookup y = some c := fun {y} hl => by
    have hy : (y, NameKind.free) ∈ scope.names := PySem.mem_of_lookup hl
    exact mem_lookup (cloFrom_has (cells := X.env.cells) (acc := []) hy)
  have kp : ∀ b o, s.heap.get? b = some o → s6.heap.get? b = some o := fun b o e => by rw [h6]; exact Heap.get?_push_of_some _ (hk b o e)
  have cellK : ∀ {c : Addr} {v : Option Value}, s.heap.IsCell c v → s6.heap.IsCell c v := fun {c v} ⟨o, ho, hd⟩ => ⟨o, kp _ _ ho, hd⟩
  refine ⟨⟨I.ok.mod, ok.kind, I.ok.glob, rfl, Nat.le_refl _, fun y z c e1 e2 => I.ok.inj y z c (cm e1) (cm e2), fun y hy => ?_, fun y c z _ => (nomatch (show false = true from z)), fun _ => hAh, hAf, .inr ⟨rfl, rfl⟩, fun b hb => ⟨Nat.ne_of_lt (hfp b hb).2, fun y c e => (hfp b hb).1.2.2.2.2.1 y c (cm e)⟩, I.bs, Nat.le_trans I.ok.bsz I.sz, fun b o e hb => ?_, fun b hb z => ?_, I.stack, I.stkFree⟩,
    ho, hb, Un.kept kp, ⟨fun y => if y = ".0" then some it else none, ?_, fun i y v e1 e2 e3 => ?_⟩, fun y c e => ?_, I.hok.fresh (Nat.le_refl _), fun y c e => I.freeC y c (cm e), fun p hp => ?_, I.hok.kept kp, by rw [wipe_length]; exact I.len⟩
  · have hy : scope.names.lookup y = some .cell ∨ scope.names.lookup y = some .free := hy
    rcases hy with hy | hy
    · exact absurd rfl (ok.cell _ (PySem.mem_of_lookup hy))
    · exact look hy
  · rcases (hfp b hb).1.2.2.2.1 with z | z
    · exact I.ok.noex b o e z
    · exact absurd (Nat.lt_of_lt_of_le (Heap.lt_size e) (Nat.le_trans I.ok.bsz z)) (Nat.lt_irrefl _)
  · rcases List.mem_cons.mp (I.stkSub b z) with z | z
    · exact (hfp b hb).1.2.1 z
    · exact (hfp b hb).1.2.2.1 z
  · show s6.heap.Ns s.heap.objs.size _
    rw [h6]; exact hns.at' fun o e => Heap.get?_push_of_some _ e
  · have e3 : Vis scope y := e3
    obtain ⟨e2, hne⟩ := wipe_some e2
    rcases e3 with k | k | k
    · rcases ok.own _ (PySem.mem_of_lookup k) rfl with e' | e'
      · obtain ⟨p, hp, hpy⟩ := List.mem_map.mp e'
        have e4 := ok.ix p hp
        have hpy : p.1 = y := hpy
        rw [hpy] at e4
        exact absurd (List.mem_map.mpr ⟨p, hp, nodup_ix hN e4 e1⟩) hne
      · exact absurd (List.mem_of_getElem? e1) e'
    · exact absurd rfl (ok.cell _ (PySem.mem_of_lookup k))
    · obtain ⟨m, hn, hl⟩ := I.loc
      have hvis : Vis X.env.scope y := (ok.free _ (PySem.mem_of_lookup k) rfl).elim (fun k => .inr (.inl k)) (fun k => .inr (.inr k))
      obtain ⟨w', r, q⟩ := hl i y v e1 e2 hvis
      obtain ⟨c2, h2⟩ := look k
      refine ⟨w', r, .inr ⟨.inr k, c2, h2, ?_⟩⟩
      have c1 := cm h2
      rcases q with ⟨k', _⟩ | ⟨_, c3, e', z⟩
      · have k' : X.env.scope.names.lookup y = some .local := k'
        rcases ok.free _ (PySem.mem_of_lookup k) rfl with k2 | k2 <;> rw [show X.env.scope.names.lookup y = _ from k2] at k' <;> cases k'
      · rw [c1] at e'
        cases e'
        exact cellK z
  · obtain ⟨w', z⟩ := I.cell y c (cm e)
    exact ⟨w', cellK z⟩
  · have hp : p ∈ [(h'.objs.size, go)] := by simpa using hp
    rw [List.mem_singleton.mp hp]
    have hge : s.heap.objs.size ≤ h'.objs.size := by omega
    refine ⟨by rw [h6]; exact hgo, I.hok.fresh hge, ?_, fun z => ?_, hgd⟩
    · show h'.objs.size ≠ s.heap.objs.size
      omega
    · rcases List.mem_cons.mp (I.stkSub _ z) with z | z
      · have := I.lt
        rw [← z] at this
        have this : h'.objs.size < s.heap.objs.size := this
        omega
      · exact I.nofs hge z
end

/-! ### the mirror -/
/-- the slots of a block's own names are nothing at its start -/
def wipeD (vars : Vars) : List Nat → Vars
  | [] => vars
  | v :: vs => (wipeD vars vs).set v none
theorem wipeD_len (vars : Vars) : ∀ vs : List Nat, (wipeD vars vs).length = vars.length
  | [] => rfl
  | v :: vs => by unfold wipeD; rw [List.length_set, wipeD_len vars vs]
theorem wipeD_some {vars : Vars} {i : Nat} {x : D} : ∀ {vs : List Nat}, (wipeD vars vs)[i]? = some (some x) → vars[i]? = some (some x) ∧ i ∉ vs
  | [], h => ⟨h, by simp⟩
  | v :: vs, h => by
    unfold wipeD at h
    by_cases hi : v = i
    · subst hi
      by_cases hv : v < (wipeD vars vs).length
      · rw [List.getElem?_set_self hv] at h; cases h
      · rw [List.getElem?_eq_none (by simpa using hv)] at h; cases h
    · rw [List.getElem?_set_ne hi] at h
      obtain ⟨h1, h2⟩ := wipeD_some h
      exact ⟨h1, by simp only [List.mem_cons, not_or]; exact ⟨fun e => hi e.symm, h2⟩⟩
theorem wipe_at {σ : L2.St} {i : Nat} {v : V} : ∀ {vs : List Nat}, i ∉ vs → σ[i]? = some (some v) → (wipe σ vs)[i]? = some (some v)
  | [], _, h => h
  | w :: vs, hi, h => by
    simp only [List.mem_cons, not_or] at hi
    unfold wipe
    rw [List.getElem?_set_ne (Ne.symm hi.1)]
    exact wipe_at hi.2 h
theorem Rel.wipe {c : Wd} {vars : Vars} {st : Sto} {σ : L2.St} {H : Hp} (r : Rel c vars st σ H) (vs : List Nat) : Rel c (wipeD vars vs) st (L2.wipe σ vs) H :=
  { r.toRelS with
    vlen := by rw [wipeD_len, wipe_length]; exact r.vlen
    vars := fun i d e => by
      obtain ⟨e1, hi⟩ := wipeD_some e
      obtain ⟨v, e2, rv⟩ := r.vars i d e1
      exact ⟨v, wipe_at hi e2, rv⟩ }
/-- all(..): e = false; any(..): e = true -/
def zGenL (e : Bool) (g : ZG) (f : ZE) (vars0 : Vars) : List D → Sto → R
  | [], st => .ok (.bl (!e)) st
  | d :: ds, st => match g d vars0 with
    | some vars1 => (match f vars1 st with
      | .ok (.bl b) st => if b = e then .ok (.bl e) st else zGenL e g f vars0 ds st
      | _ => .stuck)
    | none => .stuck
def zGen (e : Bool) (fi : ZL) (g : ZG) (f : ZE) (own : List Nat) : ZE := fun vars st => match fi vars st with
  | .ok items st => zGenL e g f (wipeD vars own) items st
  | .rz x st => .rz x st
  | .stuck => .stuck

/-! ### the turns -/
theorem Inv.regens {X : Cx} {pins : List (Addr × Obj)} {σ : L2.St} {H : Hp} {s s' : Shared} (I : Inv X pins σ H s) (hk : ∀ b o, s.heap.get? b = some o → s'.heap.get? b = some o) (ho : s'.os = s.os) (hb : AllBare s'.gens) : Inv X pins σ H s' :=
  I.call' (ch := []) ho (Un.kept hk) (I.hok.kept hk) hb fun b z => by simp at z
theorem over_gx {A : Around} {c : Code} {env : Env} (hf : c.isFrame = true) (he : c.env? = some env) (hh : A.handled = none) {l : List Env} (hl : A.frames = some l) : (A.over c []).handled = none ∧ (A.over c []).frames = some (env :: l) := by
  refine ⟨hh, ?_⟩
  show pushEnvs c.envs (pushEnvs (envsOf []) A.frames) = _
  have e : c.envs = [env] := by simp [Code.envs, hf, he]
  rw [e, hl]
  rfl
/-- what the walk of a generator's turns stands upon -/
structure GxS (X : Cx) (Ae : Around) (s4 : Shared) (H4 : Hp) (cenv : Env) (fp : List Addr) (pn : List (Addr × Obj)) (σ0 : L2.St) (tn : Nat → Heap → Prop) (c0 : Wd) (vars0 : Vars) (i : Nat) (c : Wd) (st : Sto) (H : Hp) (s : Shared) : Prop where
  inv : Inv (gxCx X Ae s4 H4 cenv fp pn) [] σ0 H s
  tn : tn i s.heap
  fp : ∀ b ∈ fp, H b = none
  le : c0.le c
  rel : Rel c vars0 st σ0 H
def gxY (X : Cx) (Ae : Around) (s4 : Shared) (H4 : Hp) (cenv : Env) (fp : List Addr) (pn : List (Addr × Obj)) (σ0 : L2.St) (tn : Nat → Heap → Prop) (c0 : Wd) (vars0 : Vars) (items : List D) (e : Bool) (g : ZG) (f : ZE) (P : Wd → R → Prop) : Protocol := fun n s₀ v s kap =>
  ∃ i b c st H, n + i = items.length ∧ v = .bool b ∧ GxS X Ae s4 H4 cenv fp pn σ0 tn c0 vars0 i c st H s ∧ P c (if b = e then .ok (.bl e) st else zGenL e g f vars0 (items.drop i) st) ∧
    ∀ s', s'.heap = s.heap → s'.os = s.os → AllBare s'.gens → b ≠ e → kap (.send .none) s'
def gxR (X : Cx) (Ae : Around) (s4 : Shared) (H4 : Hp) (cenv : Env) (fp : List Addr) (pn : List (Addr × Obj)) (σ0 : L2.St) (c0 : Wd) (vars0 : Vars) (e : Bool) (P : Wd → R → Prop) : GenEnd := fun n s₀ r s =>
  ((r = .ok (.ret .none) ∨ r = .ok .next) ∧ ∃ c st H, Inv (gxCx X Ae s4 H4 cenv fp pn) [] σ0 H s ∧ c0.le c ∧ Rel c vars0 st σ0 H ∧ P c (.ok (.bl (!e)) st)) ∨ ∃ x, r = .error x ∧ False
theorem gx_stat {X : Cx} {Ae : Around} {s4 : Shared} {H4 : Hp} {cenv : Env} {fp : List Addr} {pn : List (Addr × Obj)} (hpn : ∀ p ∈ pn, ∀ b ∈ fp, p.1 ≠ b) {σ' : L2.St} {H' : Hp} {s' : Shared} (I' : Inv (gxCx X Ae s4 H4 cenv fp pn) [] σ' H' s') (hn : ∀ b ∈ fp, H' b = none) : ∀ b ∈ fp, FpOk (gxCx X Ae s4 H4 cenv fp pn) [] H' b := fun b hb =>
  ⟨hn b hb, (I'.ok.exf b hb).1, I'.ok.exfs b hb, .inl hb, fun x c e => (I'.ok.exf b hb).2 x c e, fun p hp => by
    have hp : p ∈ pn ++ [] := hp
    rw [List.append_nil] at hp
    exact hpn p hp b hb⟩

theorem weak_wipe {σ σ' : L2.St} {vs : List Nat} (b : But vs (L2.wipe σ vs) σ') : ∀ (i : Nat) (v : V), (L2.wipe σ vs)[i]? = some (some v) → σ'[i]? = some (some v) := fun i v h => by
  rw [b.2 i (wipe_some h).2]; exact h
theorem gx_loop {X : Cx} {B : Around} {s4 : Shared} {H4 : Hp} {scope : Scope} {cenv : Env} {fp : List Addr} {pn : List (Addr × Obj)} {σ : L2.St} {ws : List Nat} {tn : Nat → Heap → Prop} {c0 : Wd} {vars0 : Vars} {items : List D} {e : Bool} {g : ZG} {f : ZE} {P : Wd → R → Prop} {it : Addr} {J : It}
    {elt tg iter : Expr} {pos : Pos} (T : Turn X.prog X.w X.K tg J fp it tn) (ok : ItOk c0 J items) (hpn : ∀ p ∈ pn, ∀ b ∈ fp, p.1 ≠ b) (hw : c0.w = X.w) {W : WZ} (hm : c0.md = Cx.md X W) (hco : cenv.scope.isCoroutine = false) (hmono : ∀ c c' r, c.le c' → P c r → P c' r) (hP : ∀ c, ¬ P c .stuck)
    (hg : DG (gxCx X (B.over (.compLoop (.GeneratorExp elt [⟨tg, iter, [], 0⟩] scope pos) 0 (.ref it) .none cenv) []) s4 H4 cenv fp pn) ws tg g)
    (hf : DE (gxCx X (B.over (.compLoop (.GeneratorExp elt [⟨tg, iter, [], 0⟩] scope pos) 0 (.ref it) .none cenv) []) s4 H4 cenv fp pn) W.q elt f) :
    ∀ (k i : Nat) (s₀ s : Shared) (c : Wd) (st : Sto) (H : Hp), k + i = items.length → GxS X (B.over (.compLoop (.GeneratorExp elt [⟨tg, iter, [], 0⟩] scope pos) 0 (.ref it) .none cenv) []) s4 H4 cenv fp pn (L2.wipe σ ws) tn c0 vars0 i c st H s → P c (zGenL e g f vars0 (items.drop i) st) →
      Seg (model X.prog X.w) B (gxR X (B.over (.compLoop (.GeneratorExp elt [⟨tg, iter, [], 0⟩] scope pos) 0 (.ref it) .none cenv) []) s4 H4 cenv fp pn (L2.wipe σ ws) c0 vars0 e P) (gxY X (B.over (.compLoop (.GeneratorExp elt [⟨tg, iter, [], 0⟩] scope pos) 0 (.ref it) .none cenv) []) s4 H4 cenv fp pn (L2.wipe σ ws) tn c0 vars0 items e g f P) k s₀
        (.compLoop (.GeneratorExp elt [⟨tg, iter, [], 0⟩] scope pos) 0 (.ref it) .none cenv) ((model X.prog X.w).den (.compLoop (.GeneratorExp elt [⟨tg, iter, [], 0⟩] scope pos) 0 (.ref it) .none cenv)) [] s := by
  generalize hAe : B.over (.compLoop (.GeneratorExp elt [⟨tg, iter, [], 0⟩] scope pos) 0 (.ref it) .none cenv) [] = Ae at hg hf ⊢
  intro k
  induction k with
  | zero =>
    intro i s₀ s c st H hk S hp
    have hi : i = items.length := by omega
    subst hi
    rw [List.drop_length] at hp
    show Seg _ B _ _ _ s₀ _ ((compTurn (.GeneratorExp elt [⟨tg, iter, [], 0⟩] scope pos) 0 (.ref it) .none cenv).onRaise (leaving cenv)) [] s
    rw [compTurn_gen, Sem.onRaise_eq_wrap]
    refine seg_bind_wrap (wpAny_standAt ?_)
    refine seg_bind_wrap ?_
    rw [hAe]
    refine wpAny_mono (T.done (gxCx X Ae s4 H4 cenv fp pn) rfl rfl rfl rfl _ [] s _ H (fun _ _ => False) S.inv (gx_stat hpn S.inv S.fp) S.tn (ok.stop c st H S.le.R S.rel.toRelS)) (fun r s1 h1 => ?_) fun _ _ z => z.elim
    obtain ⟨rfl, I1⟩ := h1
    exact seg_end (.ok .next) (.inl ⟨.inr rfl, c, st, H, I1, S.le, S.rel, hp⟩)
  | succ k ih =>
    intro i s₀ s c st H hk S hp
    have hi : i < items.length := by omega
    obtain ⟨go, yl⟩ := ok.step i items[i] c st H S.le.R S.rel.toRelS (List.getElem?_eq_getElem hi)
    rw [List.drop_eq_getElem_cons hi] at hp
    unfold zGenL at hp
    cases eg : g items[i] vars0 with
    | none => rw [eg] at hp; exact (hP _ hp).elim
    | some vars1 =>
    rw [eg] at hp
    dsimp only at hp
    show Seg _ B _ _ _ s₀ _ ((compTurn (.GeneratorExp elt [⟨tg, iter, [], 0⟩] scope pos) 0 (.ref it) .none cenv).onRaise (leaving cenv)) [] s
    rw [compTurn_gen, Sem.onRaise_eq_wrap]
    refine seg_bind_wrap (wpAny_standAt ?_)
    refine seg_bind_wrap ?_
    rw [hAe]
    refine wpAny_mono (T.item (gxCx X Ae s4 H4 cenv fp pn) rfl rfl rfl rfl i [] s _ H (fun _ _ => False) S.inv (gx_stat hpn S.inv S.fp) S.tn go) (fun r s1 h1 => ?_) fun _ _ z => z.elim
    obtain ⟨u, rfl, h1⟩ := h1
    dsimp only
    refine seg_bind_wrap ?_
    rw [hAe]
    refine wpAny_mono h1 (fun _ s2 h2 => ?_) fun _ _ z => z.elim
    obtain ⟨x, H2, I2, rv2, hy, t2, n2⟩ := h2
    obtain ⟨c2, l2, rx, up⟩ := yl x H2 hy
    have R2 := up _ _ _ S.rel
    have st2 := gx_stat hpn I2 n2
    have to2 := T.obj _ _ t2
    have I2' := I2.pinned st2 to2
    refine seg_bind_wrap ?_
    rw [hAe]
    refine wpAny_mono (hg.run _ s2 _ H2 x u (fun σ' H' => ∃ c', c2.le c' ∧ Rel c' vars1 st σ' H' ∧ But ws (L2.wipe σ ws) σ') I2' rv2 ⟨c2, vars0, vars1, st, items[i], (l2.w.trans S.le.w).trans hw, (l2.b.trans S.le.b).trans (mgo hm), R2, rx, eg, fun c' σ' H' l r b => ⟨c', l, r, b⟩⟩) (fun _ s3 h3 => ?_) fun _ _ z => z.elim
    obtain ⟨σ3, H3, I3, c3, l3, R3, b3⟩ := h3
    dsimp only [List.forIn_nil]
    refine seg_bind_wrap (wpAny_pure ?_)
    have hy : ∀ v, yieldOut cenv v = yieldValue v := fun v => by simp only [yieldOut, hco, Bool.false_eq_true, if_false]
    simp only [hy, if_true]
    rw [Sem.bind_eq_wrap', Sem.bind_eq_wrap', Sem.wrap_wrap, Sem.wrap_wrap]
    have hl03 : c0.le c3 := S.le.trans (l2.trans l3)
    cases ef : f vars1 st with
    | stuck => rw [ef] at hp; exact (hP _ hp).elim
    | rz x st => rw [ef] at hp; exact (hP _ hp).elim
    | ok d st' =>
    rw [ef] at hp
    cases d with
    | bl b =>
      dsimp only at hp
      refine seg_wrap ?_
      rw [hAe]
      refine wpAny_mono (hf.run _ s3 σ3 H3 (fun v H' => ∃ c', c3.le c' ∧ Rel c' vars1 st' σ3 H' ∧ v = .bl b) I3 ⟨c3, vars1, st, hl03.w.trans hw, hl03.md.trans hm, R3, by
        rw [ef]
        intro v c' H' l r rv
        cases rv
        exact ⟨c', l, r, rfl⟩⟩) (fun v s4' h4 => ?_) fun _ _ z => z.elim
      obtain ⟨vv, H4', I4, rv4, c4, l4, R4, e4⟩ := h4
      subst e4
      have ev : v = .bool b := rv4
      subst ev
      refine seg_at ?_
      have pin' : ∀ b ∈ fp, ∀ o, s2.heap.get? b = some o → s4'.heap.get? b = some o ∧ H4' b = none := fun b hb o e =>
        let z := I4.pin (b, o) (List.mem_append_right _ (List.mem_append_right _ (mem_pinsAt hb e)))
        ⟨z.1, z.2.1⟩
      have I5 : Inv (gxCx X Ae s4 H4 cenv fp pn) [] (L2.wipe σ ws) H4' s4' := (I4.unpinned (pins := [])).weak b3.1.symm (weak_wipe b3)
      have hl24 : c.le c4 := l2.trans (l3.trans l4)
      have S5 : GxS X Ae s4 H4 cenv fp pn (L2.wipe σ ws) tn c0 vars0 (i + 1) c4 st' H4' s4' := {
        inv := I5
        tn := T.keep _ _ _ t2 fun b hb o e => (pin' b hb o e).1
        fp := fun b hb => by
          obtain ⟨o, e, _⟩ := to2 b hb
          exact (pin' b hb o e).2
        le := S.le.trans hl24
        rel := Rel.of (r := S.rel) hl24 R4.toRelS }
      refine seg_yield rfl rfl rfl ⟨i + 1, b, c4, st', H4', by omega, rfl, S5, hmono _ _ _ hl24 hp, fun s' hh ho hb hne => ?_⟩
      rw [if_neg hne] at hp
      refine seg_again rfl (ih (i + 1) s' s' c4 st' H4' (by omega) ⟨Inv.regens I5 (fun b o e => by rw [hh]; exact e) ho hb, by rw [hh]; exact S5.tn, S5.fp, S5.le, S5.rel⟩ (hmono _ _ _ hl24 hp))
    | _ => exact (hP _ hp).elim

theorem gx_startSeg {X : Cx} {B : Around} {scope : Scope} {cenv : Env} {fp : List Addr} {tn : Nat → Heap → Prop} {R : GenEnd} {Y : Protocol} {it : Addr} {J : It} {k : Nat} {s₀ s : Shared}
    {elt tg iter : Expr} {pos : Pos} (T : Turn X.prog X.w X.K tg J fp it tn) (st : tn 0 s.heap)
    (h : Seg (model X.prog X.w) B R Y k s₀ (.compLoop (.GeneratorExp elt [⟨tg, iter, [], 0⟩] scope pos) 0 (.ref it) .none cenv) ((model X.prog X.w).den (.compLoop (.GeneratorExp elt [⟨tg, iter, [], 0⟩] scope pos) 0 (.ref it) .none cenv)) [] s) :
    Seg (model X.prog X.w) B R Y k s₀ (.compStart (.GeneratorExp elt [⟨tg, iter, [], 0⟩] scope pos) 0 (.ref it) .none cenv) ((model X.prog X.w).den (.compStart (.GeneratorExp elt [⟨tg, iter, [], 0⟩] scope pos) 0 (.ref it) .none cenv)) [] s := by
  show Seg _ B _ _ _ s₀ _ ((compStart (.GeneratorExp elt [⟨tg, iter, [], 0⟩] scope pos) 0 (.ref it) .none cenv).onRaise (leaving cenv)) [] s
  unfold compStart
  rw [Sem.onRaise_eq_wrap]
  show Seg _ B _ _ _ s₀ _ ((ask >>= _).wrap _ _ _ _) [] s
  refine seg_bind_wrap (wpAny_askSetting ?_)
  split
  · exact seg_again rfl h
  · first
      | exact seg_bind_wrap (wpAny_rule (seg_bind_wrap (wpAny_standAt (seg_bind_wrap (T.self _ 0 s _ _ st (seg_again rfl h))))))
      | (refine seg_bind_wrap (wpAny_rule ?_); show Seg _ B _ _ _ s₀ _ ((standAt iter.pos >>= _).wrap _ _ _ _) [] s; exact seg_bind_wrap (wpAny_standAt (seg_bind_wrap (T.self _ 0 s _ _ st (seg_again rfl h)))))

/-- the builtin that asks the generator: all (e = false), any (e = true) -/
def gxLoop (e : Bool) : String := if e = true then "any.loop" else "all.loop"
theorem gx_drain {X : Cx} {A Ae : Around} {s4 : Shared} {H4 : Hp} {cenv : Env} {fp : List Addr} {pn : List (Addr × Obj)} {σ0 : L2.St} {tn : Nat → Heap → Prop} {c0 : Wd} {vars0 : Vars} {items : List D} {e : Bool} {g : ZG} {f : ZE} {P : Wd → R → Prop} {a : Addr} {gi : Nat} {Rr : Result → Shared → Prop}
    (hh : A.handled = none) (hd : A.depth < recursionLimit) (hgen : ∀ {σ : L2.St} {H : Hp} {s : Shared}, Inv (gxCx X Ae s4 H4 cenv fp pn) [] σ H s → s.heap.IsGen a gi)
    (hend : ∀ (c : Wd) (st : Sto) (H : Hp) (s' : Shared) (b : Bool), Inv (gxCx X Ae s4 H4 cenv fp pn) [] σ0 H s' → c0.le c → Rel c vars0 st σ0 H → P c (.ok (.bl b) st) → Rr (.ok (.ret (.bool b))) s') :
    ∀ (k : Nat) (s : Shared), (∃ i c st H, GxS X Ae s4 H4 cenv fp pn σ0 tn c0 vars0 i c st H s) →
      (∃ gs, s.gens[gi]? = some gs ∧ gs.Goes (model X.prog X.w) A.in1.in1 (gxR X Ae s4 H4 cenv fp pn σ0 c0 vars0 e P) (gxY X Ae s4 H4 cenv fp pn σ0 tn c0 vars0 items e g f P) k (.send .none) (s.setGen gi .running)) →
      codeAny (model X.prog X.w) A (.builtin (gxLoop e) ⟨[.ref a], []⟩) Rr s := by
  have goes : ∀ {gs : GenState} {B : Around} {n : Nat} {r : Resume} {s : Shared}, gs.Goes (model X.prog X.w) B (gxR X Ae s4 H4 cenv fp pn σ0 c0 vars0 e P) (gxY X Ae s4 H4 cenv fp pn σ0 tn c0 vars0 items e g f P) n r s →
      gs.Goes (model X.prog X.w) B (fun n s₀ r s => ((r = .ok (.ret .none) ∨ r = .ok .next) ∧ (fun _ _ (s : Shared) => ∃ c st H, Inv (gxCx X Ae s4 H4 cenv fp pn) [] σ0 H s ∧ c0.le c ∧ Rel c vars0 st σ0 H ∧ P c (.ok (.bl (!e)) st)) n s₀ s) ∨ ∃ x, r = .error x ∧ (fun _ _ => False) x s) (gxY X Ae s4 H4 cenv fp pn σ0 tn c0 vars0 items e g f P) n r s := fun h => h
  have body : ∀ (k : Nat) (s : Shared), (∃ i c st H, GxS X Ae s4 H4 cenv fp pn σ0 tn c0 vars0 i c st H s) →
      (∃ gs, s.gens[gi]? = some gs ∧ gs.Goes (model X.prog X.w) A.in1.in1 (gxR X Ae s4 H4 cenv fp pn σ0 c0 vars0 e P) (gxY X Ae s4 H4 cenv fp pn σ0 tn c0 vars0 items e g f P) k (.send .none) (s.setGen gi .running)) →
      (∀ (m : Nat) (s : Shared), k = m + 1 → (∃ i c st H, GxS X Ae s4 H4 cenv fp pn σ0 tn c0 vars0 i c st H s) →
        (∃ gs, s.gens[gi]? = some gs ∧ gs.Goes (model X.prog X.w) A.in1.in1 (gxR X Ae s4 H4 cenv fp pn σ0 c0 vars0 e P) (gxY X Ae s4 H4 cenv fp pn σ0 tn c0 vars0 items e g f P) m (.send .none) (s.setGen gi .running)) →
        codeAny (model X.prog X.w) A (.builtin (gxLoop e) ⟨[.ref a], []⟩) Rr s) →
      wpAny (model X.prog X.w) A.in1 (pyNext (.ref a)) (fun r s1 => match r with
        | none => Rr (.ok (.ret (.bool (!e)))) s1
        | some v => ∃ b, v = .bool b ∧ if b = e then Rr (.ok (.ret (.bool e))) s1 else codeAny (model X.prog X.w) A (.builtin (gxLoop e) ⟨[.ref a], []⟩) Rr s1) (fun _ _ => False) s := by
    intro k s ⟨i, c, st, H, S⟩ ⟨gs, hgs, hgo⟩ next
    have hgl : gi < s.gens.size := (Array.getElem?_eq_some_iff.mp hgs).1
    refine wpAny_gsz (n := gi + 1) hgl (next_genG (A := A.in1) hh S.inv.nolimit hd (hgen S.inv) hgs (goes hgo) (fun v s₁ gs' hbare hv => ?_) (fun s₁ hp h' hk => ?_) fun x s₁ he => he.elim)
    · intro hsz
      obtain ⟨i', b, c', st', H', hn, rfl, S', hp, kap⟩ := hv
      have Sg : GxS X Ae s4 H4 cenv fp pn σ0 tn c0 vars0 i' c' st' H' (s₁.setGen gi gs') :=
        ⟨Inv.regens S'.inv (fun _ _ e => e) rfl (allBare_setGen S'.inv.bare hbare), S'.tn, S'.fp, S'.le, S'.rel⟩
      refine ⟨b, rfl, ?_⟩
      by_cases hb : b = e
      · rw [if_pos hb]
        rw [if_pos hb] at hp
        exact hend c' st' H' _ e Sg.inv S'.le S'.rel hp
      · rw [if_neg hb]
        have hsz1 : gi < s₁.gens.size := by
          have q : (s₁.setGen gi gs').gens.size = s₁.gens.size := setGen_size _ _ _
          have hsz' : gi + 1 ≤ (s₁.setGen gi gs').gens.size := hsz
          omega
        have kap := kap ((s₁.setGen gi gs').setGen gi .running) rfl rfl (allBare_setGen (s := s₁.setGen gi gs') (allBare_setGen S'.inv.bare hbare) rfl) hb
        cases hk : k with
        | zero => rw [hk] at kap; exact kap.elim
        | succ m =>
          rw [hk] at kap
          exact next m _ hk ⟨i', c', st', H', Sg⟩ ⟨gs', setGen_at hsz1, kap⟩
    · intro hsz
      obtain ⟨c', st', H', I', l', r', p'⟩ := hp
      exact hend c' st' H' _ (!e) (Inv.regens I' hk rfl (allBare_setGen I'.bare rfl)) l' r' p'
  have all_ : e = false → ∀ (s : Shared), wpAny (model X.prog X.w) A.in1 (pyNext (.ref a)) (fun r s1 => match r with
        | none => Rr (.ok (.ret (.bool (!e)))) s1
        | some v => ∃ b, v = .bool b ∧ if b = e then Rr (.ok (.ret (.bool e))) s1 else codeAny (model X.prog X.w) A (.builtin (gxLoop e) ⟨[.ref a], []⟩) Rr s1) (fun _ _ => False) s → codeAny (model X.prog X.w) A (.builtin (gxLoop e) ⟨[.ref a], []⟩) Rr s := by
    intro he s h
    subst he
    show codeAny _ A (.builtin "all.loop" ⟨[.ref a], []⟩) Rr s
    refine codeAny_builtin F.entry_all_loop ?_
    rw [Around.under_plainId F.plain_all_loop _]
    show wpAny _ A.in1 (pyNext (.ref a) >>= _) _ _ s
    refine wpAny_bind (wpAny_mono h (fun r s1 h1 => ?_) fun _ _ z => z.elim)
    cases r with
    | none => exact wpAny_bind (wpAny_rule (wpAny_pure h1))
    | some v =>
      obtain ⟨b, rfl, h1⟩ := h1
      refine wpAny_bind (wpAny_holding (wpAny_truthy_bool ?_))
      refine wpAny_bind (wpAny_letGo ?_)
      cases b with
      | true =>
        rw [if_neg (by decide)] at h1
        simp only [if_true]
        exact wpAny_pure ⟨plainId_quiet F.plain_all_loop _, h1⟩
      | false =>
        rw [if_pos rfl] at h1
        simp only [Bool.false_eq_true, if_false]
        exact wpAny_bind (wpAny_rule (wpAny_pure h1))
  have any_ : e = true → ∀ (s : Shared), wpAny (model X.prog X.w) A.in1 (pyNext (.ref a)) (fun r s1 => match r with
        | none => Rr (.ok (.ret (.bool (!e)))) s1
        | some v => ∃ b, v = .bool b ∧ if b = e then Rr (.ok (.ret (.bool e))) s1 else codeAny (model X.prog X.w) A (.builtin (gxLoop e) ⟨[.ref a], []⟩) Rr s1) (fun _ _ => False) s → codeAny (model X.prog X.w) A (.builtin (gxLoop e) ⟨[.ref a], []⟩) Rr s := by
    intro he s h
    subst he
    show codeAny _ A (.builtin "any.loop" ⟨[.ref a], []⟩) Rr s
    refine codeAny_builtin F.entry_any_loop ?_
    rw [Around.under_plainId F.plain_any_loop _]
    show wpAny _ A.in1 (pyNext (.ref a) >>= _) _ _ s
    refine wpAny_bind (wpAny_mono h (fun r s1 h1 => ?_) fun _ _ z => z.elim)
    cases r with
    | none => exact wpAny_bind (wpAny_rule (wpAny_pure h1))
    | some v =>
      obtain ⟨b, rfl, h1⟩ := h1
      refine wpAny_bind (wpAny_holding (wpAny_truthy_bool ?_))
      refine wpAny_bind (wpAny_letGo ?_)
      cases b with
      | false =>
        rw [if_neg (by decide)] at h1
        simp only [Bool.false_eq_true, if_false]
        exact wpAny_pure ⟨plainId_quiet F.plain_any_loop _, h1⟩
      | true =>
        rw [if_pos rfl] at h1
        simp only [if_true]
        exact wpAny_bind (wpAny_rule (wpAny_pure h1))
  have fin : ∀ (s : Shared), wpAny (model X.prog X.w) A.in1 (pyNext (.ref a)) (fun r s1 => match r with
        | none => Rr (.ok (.ret (.bool (!e)))) s1
        | some v => ∃ b, v = .bool b ∧ if b = e then Rr (.ok (.ret (.bool e))) s1 else codeAny (model X.prog X.w) A (.builtin (gxLoop e) ⟨[.ref a], []⟩) Rr s1) (fun _ _ => False) s → codeAny (model X.prog X.w) A (.builtin (gxLoop e) ⟨[.ref a], []⟩) Rr s := by
    cases he : e with
    | false => rw [he] at all_; exact all_ rfl
    | true => rw [he] at any_; exact any_ rfl
  intro k
  induction k with
  | zero => exact fun s h1 h2 => fin s (body 0 s h1 h2 fun m _ z => by cases z)
  | succ k ih =>
    intro s h1 h2
    refine fin s (body (k + 1) s h1 h2 fun m s' hm h1' h2' => ?_)
    cases hm
    exact ih s' h1' h2'

section
variable {X : Cx} {W : WZ}
/-- the world's heap has grown at a table -/
theorem Rel.table {c : Wd} {vars : Vars} {st : Sto} {σ : L2.St} {H : Hp} {P : Addr} {ps : Array Value} (r : Rel c vars st σ H) (hP : P ∈ c.T) (hps : TriplesOk ps.toList) : Rel c vars st σ (upd H P (.tbl ps)) := by
  obtain ⟨h1, h2, h3, _⟩ := r.tb P hP
  have ne : ∀ {a : Addr}, c.G a ≠ none → a ≠ P := fun {a} h z => h (z ▸ h1)
  exact { ext := r.ext.upd h1, fr := r.fr.upd h2, dj := r.dj, len := r.len, nd := r.nd, vlen := r.vlen, vars := r.vars, dead := r.dead, tdj := r.tdj
          live := fun n d e => by
            obtain ⟨a, e1, e2, e3, l⟩ := r.live n d e
            have q : a ≠ P := fun z => h3 (z ▸ List.mem_of_getElem? e1)
            exact ⟨a, e1, e2, e3, l.at fun u z => by rw [upd_ne q]; exact z⟩
          tb := fun Q hQ => by
            obtain ⟨t1, t2, t3, qs, t4, t5⟩ := r.tb Q hQ
            by_cases q : Q = P
            · subst q; exact ⟨t1, t2, t3, ps, upd_same, hps⟩
            · exact ⟨t1, t2, t3, qs, by rw [upd_ne q]; exact t4, t5⟩
          tl := fun Q hQ => by
            obtain ⟨t1, t2, t3, qs, t4, t5, t6⟩ := r.tl Q hQ
            by_cases q : Q.1 = P
            · exact absurd (q ▸ hP) (r.tdj Q hQ)
            · exact ⟨t1, t2, t3, qs, by rw [upd_ne q]; exact t4, t5, t6⟩ }
theorem de_gen (e : Bool) {cd P : Addr} {elt tg iter : Expr} {x : Str} {scope : Scope} {own : List (Str × Nat)} {fi : ZL} {g : ZG} {f : ZE} {p gpos pos : Pos} {k : Nat}
    (hr : Room (k + 4) X.A) (hx : x = if e = true then ("any" : Str) else "all") (hgx : Gl X x) (hmx : X.mg x = none) (TB : GxR.TabB X.base X.mg cd P) (hcode : X.env.code = .ref cd) (hT : P ∈ W.T) (ok : GxOk X.N X.env.scope scope own) (hN : X.N.Nodup)
    (hi : DI X W tg iter fi) (hg : ∀ (Ae : Around) (s4 : Shared) (H4 : Hp) (C : Addr) (cv : Value) (fp : List Addr) (pn : List (Addr × Obj)), Room k Ae → DG (gxCx X Ae s4 H4 (genEnv scope (cloFrom X.env.cells scope.names []) C cv builtinsNs X.env) fp pn) (own.map (·.2)) tg g)
    (hf : ∀ (Ae : Around) (s4 : Shared) (H4 : Hp) (C : Addr) (cv : Value) (fp : List Addr) (pn : List (Addr × Obj)), Room k Ae → DE (gxCx X Ae s4 H4 (genEnv scope (cloFrom X.env.cells scope.names []) C cv builtinsNs X.env) fp pn) W.q elt f)
    (hs : ∀ v, genFold iter X.env v = pure v := by intro _; rfl)
    (he : starEach [.GeneratorExp elt [⟨tg, iter, [], 0⟩] scope gpos] X.env = (false, eval (.GeneratorExp elt [⟨tg, iter, [], 0⟩] scope gpos) X.env) :: starEach [] X.env := by rfl) :
    DE X W (.Call (.Name x p) [.GeneratorExp elt [⟨tg, iter, [], 0⟩] scope gpos] [] pos) (zGen e fi g f (own.map (·.2))) := by
  refine ⟨fun pins s σ H Q I h => ?_⟩
  obtain ⟨c, vars, st, hw, hm, rel, q⟩ := h
  have hfree : ∀ y ∈ scope.names, y.2 = .free → ∃ c, X.env.cells.lookup y.1 = some c := fun y hy e => by
    rcases ok.free y hy e with k | k
    · exact I.ok.has _ (.inl k)
    · exact I.ok.has _ (.inr k)
  have hv : bootBuiltins x = some (.builtin (if e = true then "any" else "all")) := by
    subst hx
    cases e
    · exact (by decide +kernel : bootBuiltins "all" = some (.builtin "all"))
    · exact boot_any
  refine wpAny_Call_Name_kw (ld_blt I hgx hmx hv ?_ (by subst hx; cases e <;> decide) (by subst hx; cases e <;> decide))
  refine PyProof.Rows.callWith_builtin1 ?_ he (by rfl)
  rw [he]
  show wpAny _ _ (spliced ((false, eval (.GeneratorExp elt [⟨tg, iter, [], 0⟩] scope gpos) X.env) :: backTo pos (starEach [] X.env))) _ _ s
  refine Calls.spliced_cons ?_
  refine wpAny_GeneratorExp_make ok.co (closure_ok hfree) ok.cell ok.dot ok.kind hr.depth ?_ hs
  have hz : zTI X.w (Cx.md X W) W.x fi σ H (fun J H' => ∃ c' items st', c.le c' ∧ Rel c' vars st' σ H' ∧ ItOk c' J items ∧ PostE W.x c' vars σ Q (zGenL e g f (wipeD vars (own.map (·.2))) items st')) := by
    refine ⟨c, vars, st, hw, hm, rel, ?_⟩
    unfold zGen at q
    cases ef : fi vars st with
    | stuck => rw [ef] at q; exact q
    | rz x st => rw [ef] at q; exact q
    | ok items st' =>
      rw [ef] at q
      exact fun c' H' J l r o => ⟨c', items, st', l, r, o, PostE.mono l q⟩
  refine thn (hi.run pins s σ H _ I hz) fun xv s1 h1 => thn h1 fun itv s2 h2 => ?_
  obtain ⟨it, fp, tn, J, H2, rfl, I2, T, t0, f2, c1, items, st1, l1, R1, ok1, q1⟩ := h2
  refine ⟨I2.nolimit, ?_⟩
  have hPT : P ∈ c1.T := by
    have e1 : c1.md = Cx.md X W := l1.md.trans hm
    show P ∈ c1.md.T
    rw [e1]; exact hT
  obtain ⟨_, _, _, ps, hP, ht⟩ := R1.tb P hPT
  have hPs : s2.heap.get? P = some { cls := .none, data := .fields ps } := I2.hok P _ hP
  have cdh : PySem.W.CodeHd s2.heap cd P := TB.code.keeps I2.bk
  have nfP : ∀ b ∈ fp, b ≠ P := fun b hb z => by
    have := (f2 b hb).1
    rw [z, hP] at this; cases this
  have cont : ∀ (code : Value) (h3 : Heap) (tk : Nat) (ps' : Array Value), Heap.ExtBut P s2.heap h3 → s2.heap.objs.size ≤ h3.objs.size → h3.get? P = some { cls := .none, data := .fields ps' } → (∃ more, ps' = ps ++ more) → TriplesOk ps'.toList →
      wpAny (model X.prog X.w) X.A (builtinsFor X.env.globals X.env.builtins) (fun bi s₄ => ∀ h', h'.Ns s₄.heap.objs.size (fun y => if y = ".0" then some (.ref it) else none) → Heap.SameBut s₄.heap.objs.size (s₄.heap.push { cls := .type "frame", data := .dict #[] }) h' →
        wpAny (model X.prog X.w) X.A (spliced (backTo pos (starEach [] X.env))) (fun vs s₁ => wpAny (model X.prog X.w) X.A (call (.builtin (if e = true then "any" else "all")) (.ref h'.objs.size :: vs)) (EP X pins σ Q) X.xe s₁) X.xe { s₄ with
            gens := s₄.gens.push (.fresh (.compStart (.GeneratorExp elt [⟨tg, iter, [], 0⟩] scope gpos) 0 (.ref it) .none (genEnv scope (cloFrom X.env.cells scope.names []) s₄.heap.objs.size code bi X.env))),
            toks := s₄.toks + 1 + 1 + 1,
            heap := h'.push { cls := .type "generator", data := .fields #[.int s₄.gens.size 0, .str "<genexpr>" (s₄.toks + 1), .str (X.env.qual ++ "<genexpr>") (s₄.toks + 1 + 1)] } }) X.xe { s2 with heap := h3, toks := tk } := by
    intro code h3 tk ps' hx hsz hP3 hmore ht3
    obtain ⟨bm, ob, e1, e2, e3, e4, e5, e6, e7, e8⟩ := TB.bm
    have keep3 : ∀ b u, b ≠ P → s2.heap.get? b = some u → h3.get? b = some u := fun b u hb e => hx b u hb e
    refine wpAny_builtinsFor (m := X.mg) (by rw [I2.ok.glob]; exact (I2.mod.glob.keeps I2.bk).extBut hx TB.gP) e1 e2 (keep3 _ _ e4 (I2.bk _ _ e5)) e6 e7 e8 ?_
    intro h' hns hsb
    obtain ⟨more, em⟩ := hmore
    subst em
    have I4 : Inv X pins σ (upd H2 P (.tbl (ps ++ more))) { s2 with heap := h3, toks := tk } := GxR.inv_tab (g' := s2.gens) (d' := s2.drawn) (t' := tk) I2 hP keep3 hP3 I2.bare
    have R4 := R1.table hPT ht3
    generalize hH4 : upd H2 P (.tbl (ps ++ more)) = H4 at I4 R4
    generalize hs4 : ({ s2 with heap := h3, toks := tk } : Shared) = s4 at I4 hns hsb ⊢
    have h4 : s4.heap = h3 := by rw [← hs4]
    have hk' : ∀ b o, s4.heap.get? b = some o → h'.get? b = some o := fun b o e => hsb.extBut b o (Nat.ne_of_lt (Heap.lt_size e)) (Heap.get?_push_of_some _ e)
    have hsz' : h'.objs.size = s4.heap.objs.size + 1 := by rw [hsb.1, Heap.size_push]
    have nfH : ∀ b ∈ fp, H4 b = none := fun b hb => by rw [← hH4, upd_ne (nfP b hb)]; exact (f2 b hb).1
    have hfp : ∀ b ∈ fp, FpOk X pins H4 b ∧ b < s4.heap.objs.size := fun b hb => by
      obtain ⟨o, eo, _⟩ := T.obj _ _ t0 b hb
      exact ⟨⟨nfH b hb, (f2 b hb).2⟩, Nat.lt_of_lt_of_le (Heap.lt_size eo) (by rw [h4]; exact hsz)⟩
    generalize hce : genEnv scope (cloFrom X.env.cells scope.names []) s4.heap.objs.size code builtinsNs X.env = cenv
    have hcs : cenv.scope = scope := by rw [← hce]; rfl
    obtain ⟨oh, of⟩ := over_gx (A := X.A.in1.in1) (c := .compLoop (.GeneratorExp elt [⟨tg, iter, [], 0⟩] scope gpos) 0 (.ref it) .none cenv) (env := cenv) rfl rfl hr.hd (l := X.stack) I.ok.frames
    have rAe : Room k (X.A.in1.in1.over (.compLoop (.GeneratorExp elt [⟨tg, iter, [], 0⟩] scope gpos) 0 (.ref it) .none cenv) []) := by
      have d1 := hr.dp
      have u1 := hr.un
      refine ⟨oh, ?_, ?_⟩
      · show X.A.depth + 0 + 1 + 3 * k + 5 < _
        omega
      · show X.A.units + 1 + 1 + 0 + 3 + 16 * k + 200 < _
        omega
    generalize hgo : ({ cls := .type "generator", data := .fields #[.int s4.gens.size 0, .str "<genexpr>" (s4.toks + 1), .str (X.env.qual ++ "<genexpr>") (s4.toks + 1 + 1)] } : Obj) = go
    have hgc : go.cls = .type "generator" := by rw [← hgo]
    have hgd0 : go.data = .fields #[.int s4.gens.size 0, .str "<genexpr>" (s4.toks + 1), .str (X.env.qual ++ "<genexpr>") (s4.toks + 1 + 1)] := by rw [← hgo]
    have hgs : go.slots = #[] := by rw [← hgo]
    have hgp : (h'.push go).get? h'.objs.size = some go := by rw [← hgo]; exact Heap.get?_push_size _ rfl
    have hpn : ∀ p ∈ [(h'.objs.size, go)], ∀ b ∈ fp, p.1 ≠ b := fun p hp b hb z => by
      rw [List.mem_singleton.mp hp] at z
      have q := (hfp b hb).2
      rw [← z] at q
      have q : h'.objs.size < s4.heap.objs.size := q
      omega
    generalize hs6 : ({ s4 with gens := s4.gens.push (.fresh (.compStart (.GeneratorExp elt [⟨tg, iter, [], 0⟩] scope gpos) 0 (.ref it) .none cenv)), toks := s4.toks + 1 + 1 + 1, heap := h'.push go } : Shared) = s6
    have h6 : s6.heap = h'.push go := by rw [← hs6]
    have o6 : s6.os = s4.os := by rw [← hs6]
    have g6 : s6.gens = s4.gens.push (.fresh (.compStart (.GeneratorExp elt [⟨tg, iter, [], 0⟩] scope gpos) 0 (.ref it) .none cenv)) := by rw [← hs6]
    have b6 : AllBare s6.gens := by rw [g6]; exact I4.bare.push rfl
    have J6 : Inv (gxCx X (X.A.in1.in1.over (.compLoop (.GeneratorExp elt [⟨tg, iter, [], 0⟩] scope gpos) 0 (.ref it) .none cenv) []) s4 H4 cenv fp [(h'.objs.size, go)]) [] (L2.wipe σ (own.map (·.2))) H4 s6 := by
      have of' := of
      rw [← hce] at of' ⊢
      rw [hce] at of' ⊢
      have z := gx_start (Ae := X.A.in1.in1.over (.compLoop (.GeneratorExp elt [⟨tg, iter, [], 0⟩] scope gpos) 0 (.ref it) .none cenv) []) (code := code) (it := .ref it) (go := go) (s6 := s6) (fp := fp) I4 ok hN hfp oh (by rw [hce]; exact of) hns hk' hsz' hgp (fun v z => by rw [hgd0] at z; cases z) h6 o6 b6
      rw [hce] at z
      exact z
    have S6 : GxS X (X.A.in1.in1.over (.compLoop (.GeneratorExp elt [⟨tg, iter, [], 0⟩] scope gpos) 0 (.ref it) .none cenv) []) s4 H4 cenv fp [(h'.objs.size, go)] (L2.wipe σ (own.map (·.2))) tn c1 (wipeD vars (own.map (·.2))) 0 c1 st1 H4 s6 :=
      ⟨J6, T.keep _ _ _ t0 fun b hb o eo => by rw [h6]; exact Heap.get?_push_of_some _ (hk' _ _ (by rw [h4]; exact keep3 _ _ (nfP b hb) eo)), nfH, Wd.le.refl _, R4.wipe _⟩
    have hgen : ∀ {σ : L2.St} {H : Hp} {s : Shared}, Inv (gxCx X (X.A.in1.in1.over (.compLoop (.GeneratorExp elt [⟨tg, iter, [], 0⟩] scope gpos) 0 (.ref it) .none cenv) []) s4 H4 cenv fp [(h'.objs.size, go)]) [] σ H s → s.heap.IsGen h'.objs.size s4.gens.size := fun {σ H s} J =>
      ⟨go, _, _, (J.pin (h'.objs.size, go) (List.mem_append_left _ (List.mem_singleton.mpr rfl))).1, hgc, hgd0, hgs⟩
    have hco : cenv.scope.isCoroutine = false := by rw [hcs]; exact ok.co
    have dg := hg (X.A.in1.in1.over (.compLoop (.GeneratorExp elt [⟨tg, iter, [], 0⟩] scope gpos) 0 (.ref it) .none cenv) []) s4 H4 s4.heap.objs.size code fp [(h'.objs.size, go)] rAe
    have df := hf (X.A.in1.in1.over (.compLoop (.GeneratorExp elt [⟨tg, iter, [], 0⟩] scope gpos) 0 (.ref it) .none cenv) []) s4 H4 s4.heap.objs.size code fp [(h'.objs.size, go)] rAe
    rw [hce] at dg df
    have loop := gx_loop (e := e) (σ := σ) (vars0 := wipeD vars (own.map (·.2))) (P := fun c r => PostE W.x c vars σ Q r) T ok1 hpn (l1.w.trans hw) (W := W) (l1.md.trans hm) hco (fun c c' r l p => PostE.mono l p) (fun c p => p) dg df
    refine Calls.spliced_nil ?_
    have run := gx_drain (X := X) (A := X.A) (Ae := X.A.in1.in1.over (.compLoop (.GeneratorExp elt [⟨tg, iter, [], 0⟩] scope gpos) 0 (.ref it) .none cenv) []) (s4 := s4) (H4 := H4) (cenv := cenv) (fp := fp) (pn := [(h'.objs.size, go)]) (σ0 := L2.wipe σ (own.map (·.2))) (tn := tn) (c0 := c1) (vars0 := wipeD vars (own.map (·.2))) (items := items) (e := e) (g := g) (f := f)
      (P := fun c r => PostE W.x c vars σ Q r) (a := h'.objs.size) (gi := s4.gens.size) (Rr := fun r s' => match r with | .ok (.ret v) => EP X pins σ Q v s' | _ => False) hr.hd hr.depth hgen (fun c' st' H' s' b J' le' r' p' => by
        have I7 : Inv X pins σ H' s' := I4.call' (ch := fp) J'.os J'.base J'.hok J'.bare fun b hb => ⟨(hfp b hb).1.2.2.2.1, (hfp b hb).1.2.1, (hfp b hb).1.2.2.2.2.1, (hfp b hb).1.2.2.2.2.2⟩
        exact ⟨.bl b, H', I7, rfl, p' (.bl b) c' H' (Wd.le.refl _) (Rel.of (r := R4) le' r'.toRelS) (.bl b)⟩)
      items.length s6 ⟨0, c1, st1, H4, S6⟩ ⟨.fresh (.compStart (.GeneratorExp elt [⟨tg, iter, [], 0⟩] scope gpos) 0 (.ref it) .none cenv), by rw [g6]; exact Array.getElem?_push_size .., rfl, by
        have S7 : GxS X (X.A.in1.in1.over (.compLoop (.GeneratorExp elt [⟨tg, iter, [], 0⟩] scope gpos) 0 (.ref it) .none cenv) []) s4 H4 cenv fp [(h'.objs.size, go)] (L2.wipe σ (own.map (·.2))) tn c1 (wipeD vars (own.map (·.2))) 0 c1 st1 H4 (s6.setGen s4.gens.size .running) :=
          ⟨Inv.regens S6.inv (fun _ _ e => e) rfl (allBare_setGen b6 rfl), S6.tn, S6.fp, S6.le, S6.rel⟩
        exact gx_startSeg (cenv := cenv) (J := J) T S7.tn (loop items.length 0 _ _ c1 st1 H4 (Nat.add_zero _) S7 (by simpa using q1))⟩
    cases e with
    | false =>
      refine call_function_tree F.kind_all F.plain_all F.entry_all (F.args_all1 _) ?_
      unfold Builtin.«all»
      refine wpAny_bind (m := oneArg "all" _) (wpAny_pure ?_)
      refine wpAny_bind (wpAny_pyIter_gen (hgen S6.inv) ?_)
      exact wpAny_pure ⟨plainId_quiet F.plain_all_loop _, codeAny_mono run fun r s' hq => by
        cases r with
        | error x => exact hq.elim
        | ok fl => cases fl with
          | ret v => exact hq
          | next => exact hq.elim
          | brk => exact hq.elim
          | cont => exact hq.elim⟩
    | true =>
      refine call_function_tree F.kind_any F.plain_any F.entry_any (F.args_any1 _) ?_
      unfold Builtin.«any»
      refine wpAny_bind (m := oneArg "any" _) (wpAny_pure ?_)
      refine wpAny_bind (wpAny_pyIter_gen (hgen S6.inv) ?_)
      exact wpAny_pure ⟨plainId_quiet F.plain_any_loop _, codeAny_mono run fun r s' hq => by
        cases r with
        | error x => exact hq.elim
        | ok fl => cases fl with
          | ret v => exact hq
          | next => exact hq.elim
          | brk => exact hq.elim
          | cont => exact hq.elim⟩
  cases hfd : codeAmong gpos ps.toList with
  | none =>
    refine wpAny_genexprCodeX hcode (cdh.code hPs ht) (cdh.tab hPs) hfd fun c' h' tk hx hge hlt hco' _ htab' _ => ?_
    obtain ⟨o1, vs, f1, tf, fl, tg', inF, tx, tt, op, _, _, _, _, _, _, _, _, _, htr, _⟩ := hco'
    exact cont _ h' tk _ hx (Nat.le_trans hge (Nat.le_of_lt hlt)) htab'.2 ⟨_, rfl⟩ htr
  | some cv =>
    refine wpAny_genexprCode_hit hcode (cdh.code hPs ht) hfd ?_
    exact cont cv s2.heap s2.toks ps (Heap.ExtBut.refl _ _) (Nat.le_refl _) hPs ⟨#[], by simp⟩ ht
end
end Zl

set_option Elab.async false
set_option linter.all false
set_option maxRecDepth 100000
set_option maxHeartbeats 1000000
/-! Layer Z, part 5: what is walked. -/
namespace Zl
open PySem PySem.Spec PyProof.Rows L2

section
variable {X : Cx} {tg : Expr} {pins : List (Addr × Obj)} {σ : L2.St} {H : Hp} {s : Shared} {R : It → Hp → Prop} {E : Value → Shared → Prop}
theorem pie_list {a : Addr} {xs : List V} (I : Inv X pins σ H s) (hq : SqL X.K H a xs) (q : R (Itl X.K a) H) : wpAny (model X.prog X.w) X.A (pyIter (.ref a)) (PIE X pins σ tg R) E s := by
  obtain ⟨its, rv, p, hz⟩ := I.list hq
  exact wpAny_pyIter_list p.isList (pi_one (tk := s.toks) I _ (turn_list a _) ⟨_, Heap.get?_push_size _ rfl, rfl, rfl⟩ q)
theorem pie_tup {a : Addr} {xs : List V} (I : Inv X pins σ H s) (hq : SqT X.K H a xs) (q : R (Itt X.K a) H) : wpAny (model X.prog X.w) X.A (pyIter (.ref a)) (PIE X pins σ tg R) E s := by
  obtain ⟨its, rv, p, hz⟩ := I.tuple hq
  exact wpAny_pyIter_tuple (show s.heap.IsTuple a its.toArray from p) (pi_one (tk := s.toks) I _ (turn_tuple a _) ⟨_, Heap.get?_push_size _ rfl, rfl, rfl⟩ q)
theorem pie_str {x : Str} {t : Tok} (I : Inv X pins σ H s) (q : R (Its x) H) : wpAny (model X.prog X.w) X.A (pyIter (.str x t)) (PIE X pins σ tg R) E s := by
  cases ha : x.cps.all (· < 128)
  · exact wpAny_pyIter_wide ha (pi_one (tk := s.toks) I _ (turn_str _ x t "str_iterator" (.inr rfl)) ⟨_, Heap.get?_push_size _ rfl, rfl, rfl⟩ q)
  · exact wpAny_pyIter_ascii ha (pi_one (tk := s.toks) I _ (turn_str _ x t "str_ascii_iterator" (.inl rfl)) ⟨_, Heap.get?_push_size _ rfl, rfl, rfl⟩ q)

/-! ### dicts -/
/-- the keys of the dict at d -/
def ItkN (a : Addr) (ep : Nat) (es : List Ent) : It :=
  ⟨fun i H => H a = some (.ext (rawD a ep es)) ∧ i < es.length, fun i H x H' => H' = H ∧ ∃ e, es[i]? = some e ∧ x = e.2.1, fun i H => H a = some (.ext (rawD a ep es)) ∧ es.length ≤ i⟩
/-- the pairs, each a new tuple -/
def ItiN (a : Addr) (ep : Nat) (es : List Ent) : It :=
  ⟨fun i H => H a = some (.ext (rawD a ep es)) ∧ i < es.length, fun i H x H' => ∃ T e, es[i]? = some e ∧ x = .ref T ∧ H T = none ∧ H' = upd H T (.tup [e.2.1, e.2.2]), fun i H => H a = some (.ext (rawD a ep es)) ∧ es.length ≤ i⟩
theorem raw_at {P : Program} {w : World} {h : Heap} {a : Addr} {ep : Nat} {es : List Ent} (hok : HOk P w H h) (hH : H a = some (.ext (rawD a ep es))) : (a == sysModules) = false ∧ es.length ≤ sizeLine ∧ ∃ ds, h.DictRaw a ds ep ∧ ds.size = es.length ∧
    ∀ (i : Nat) (e : Ent), es[i]? = some e → ∃ hi : i < ds.size, ds[i].hash = e.1 ∧ RelV e.2.1 ds[i].key ∧ RelV e.2.2 ds[i].val := by
  obtain ⟨⟨hs, hz, o, ds, e1, e2, e3, p⟩, _⟩ := hok a _ hH
  have hl : es.length = ds.toList.length := Paired.length p
  refine ⟨hs, hz, ds, ⟨o, e1, e2, e3⟩, by simpa using hl.symm, fun i e he => ?_⟩
  obtain ⟨b, hb, q⟩ := paired_get p he
  have hi : i < ds.size := by
    have := (List.getElem?_eq_some_iff.mp hb).1
    simpa using this
  refine ⟨hi, ?_⟩
  have : ds[i] = b := by
    have z := (List.getElem?_eq_some_iff.mp hb).2
    simpa using z
  rw [this]
  exact q
theorem turn_keysN {P : Program} {w : World} {K : PySem.W.Frag} {tg : Expr} {a : Addr} {ep : Nat} {es : List Ent} (it : Addr) : Turn P w K tg (ItkN a ep es) [it] it (fun i h => h.IsKeyIter it a i es.length ep) where
  mem := by simp
  obj := fun i h st b hb => by
    have e : b = it := by simpa using hb
    subst e
    obtain ⟨oi, e, c, dd⟩ := st
    exact ⟨oi, e, fun v z => by rw [dd] at z; cases z⟩
  keep := fun i h h' st k => st.at fun oi e => k it (by simp) oi e
  item := by
    intro X hP hw hK hc i pins s σ H E I hf st hg
    subst hP hw hK
    obtain ⟨hd, hi⟩ := hg
    obtain ⟨f0, f1, f2, f3, f4, f5⟩ := hf it (by simp)
    obtain ⟨hs, hz, ds, hr, hsz, ent⟩ := raw_at I.hok hd
    obtain ⟨hi', _, rk, _⟩ := ent i _ (List.getElem?_eq_getElem hi)
    rw [← hsz] at st
    refine wpAny_pyNext_keys_item_raw st hr hi' fun h' st' sb => ?_
    have I1 : Inv X pins σ H { s with heap := h' } := I.turned (t' := s.toks) (fun b ob hb e => (sb.2 b hb).trans e) f0 f1 f3 f4 f5
    obtain ⟨oi, e, c, dd⟩ := id st'
    exact ⟨_, rfl, go_of (s := { s with heap := h' }) e c dd (by decide) ⟨_, H, I1, rk, ⟨rfl, _, List.getElem?_eq_getElem hi, rfl⟩, by rw [← hsz]; exact st', fun b hb => (hf b hb).1⟩⟩
  done := by
    intro X hP hw hK hc i pins s σ H E I hf st hg
    subst hP hw hK
    obtain ⟨hd, hi⟩ := hg
    obtain ⟨f0, f1, f2, f3, f4, f5⟩ := hf it (by simp)
    obtain ⟨hs, hz, ds, hr, hsz, ent⟩ := raw_at I.hok hd
    rw [← hsz] at st
    exact wpAny_pyNext_keys_end_raw (I.ok.hd hc) st hr (by omega) fun h' eb => ⟨rfl, I.turned (t' := s.toks) (fun b ob hb e => eb b ob hb e) f0 f1 f3 f4 f5⟩
  self := fun A i s Q E st h => by
    refine wpAny_pyIter_slot st.typeIs F.slot_dict_keyiterator_iter (wpAny_call_entry F.slot_dict_keyiterator_iter st.typeIs F.entry_dict_keyiterator_iter ?_ (F.args_dict_keyiterator_iter_1 _))
    show wpAny _ _ (ret (.ref it)) _ _ s
    exact wpAny_pure ⟨_, rfl, "dict_keyiterator", _, st.typeIs, F.slot_dict_keyiterator_next.lookup, h⟩
theorem turn_itemsN {P : Program} {w : World} {K : PySem.W.Frag} {elts : List Expr} {kk : Nat} {tpos : Pos} {a : Addr} {ep : Nat} {es : List Ent} (it : Addr) :
    Turn P w K (.Tuple elts kk tpos) (ItiN a ep es) [it] it (fun i h => ∃ ok ov, IsItemIter h it a i es.length ep ok ov) where
  mem := by simp
  obj := fun i h st b hb => by
    have e : b = it := by simpa using hb
    subst e
    obtain ⟨ok, ov, e⟩ := st
    exact ⟨_, e, fun v z => nomatch z⟩
  keep := fun i h h' st k => let ⟨ok, ov, e⟩ := st; ⟨ok, ov, k it (by simp) _ e⟩
  item := by
    intro X hP hw hK hc i pins s σ H E I hf st hg
    subst hP hw hK
    obtain ⟨hd, hi⟩ := hg
    obtain ⟨hs, hz, ds, hr, hsz, ent⟩ := raw_at I.hok hd
    obtain ⟨hi', _, rk, ru⟩ := ent i _ (List.getElem?_eq_getElem hi)
    obtain ⟨ok, ov, he⟩ := st
    rw [← hsz] at he
    have hlt : it < s.heap.objs.size := Heap.lt_size he
    refine wpAny_pyNext_items_item_raw he hr hi' fun h' ho hT hz hk => ?_
    refine ⟨_, rfl, wpAny_letOwnedTupleGo_items (s := { s with heap := h' }) ho fun h'' he' sb => ?_⟩
    have hT2 : h''.get? s.heap.objs.size = some { cls := .type "tuple", data := .seq #[ds[i].key, ds[i].val] } := (sb.2 _ (Nat.ne_of_gt hlt)).trans hT
    have new : ObjOk X.prog X.w (upd H s.heap.objs.size (.tup [es[i].2.1, es[i].2.2])) h'' s.heap.objs.size (.tup [es[i].2.1, es[i].2.2]) :=
      ⟨by show 2 ≤ sizeLine; decide, [ds[i].key, ds[i].val], .cons rk (.cons ru .nil), ⟨_, hT2, rfl, _, rfl⟩⟩
    have I1 : Inv X pins σ (upd H s.heap.objs.size (.tup [es[i].2.1, es[i].2.2])) { s with heap := h'' } :=
      I.turnedNew (t' := s.toks) (ch := [it]) (fun b ob hb e => (sb.2 b (by simpa using hb)).trans (hk b ob (by simpa using hb) e)) hf (Nat.le_refl _) new
    refine ⟨.ref s.heap.objs.size, _, I1, rfl, ⟨_, _, List.getElem?_eq_getElem hi, rfl, I.hok.fresh (Nat.le_refl _), rfl⟩, ⟨ds[i].key, ds[i].val, ?_⟩, fun b hb => ?_⟩
    · rw [← hsz]; exact he'
    · have e : b = it := by simpa using hb
      rw [e, upd_ne (Nat.ne_of_lt hlt)]
      exact (hf it (by simp)).1
  done := by
    intro X hP hw hK hc i pins s σ H E I hf st hg
    subst hP hw hK
    obtain ⟨hd, hi⟩ := hg
    obtain ⟨f0, f1, f2, f3, f4, f5⟩ := hf it (by simp)
    obtain ⟨hs, hz, ds, hr, hsz, ent⟩ := raw_at I.hok hd
    obtain ⟨ok, ov, he⟩ := st
    rw [← hsz] at he
    exact wpAny_pyNext_items_end_raw (I.ok.hd hc) he hr (by omega) fun h' eb => ⟨rfl, I.turned (t' := s.toks) (fun b ob hb e => eb b ob hb e) f0 f1 f3 f4 f5⟩
  self := fun A i s Q E st h => let ⟨_, _, e⟩ := st; wpAny_pyIter_itemiter e h
theorem pie_keysN {a : Addr} {ep : Nat} {es : List Ent} (I : Inv X pins σ H s) (hd : H a = some (.ext (rawD a ep es))) (q : R (ItkN a ep es) H) : wpAny (model X.prog X.w) X.A (pyIter (.ref a)) (PIE X pins σ tg R) E s := by
  obtain ⟨hs, hz, ds, hr, hsz, ent⟩ := raw_at I.hok hd
  refine wpAny_pyIter_dict_raw hs hr (pi_one (tk := s.toks) I _ (turn_keysN _) ⟨_, Heap.get?_push_size _ rfl, rfl, ?_⟩ q)
  rw [hsz] <;> rfl

/-! ### enumerate(tuple) -/
def IteT (K : PySem.W.Frag) (a : Addr) : It :=
  ⟨fun i H => ∃ (xs : List V) (x : V), SqT K H a xs ∧ xs[i]? = some x, fun i H v H' => ∃ T x, v = .ref T ∧ H T = none ∧ H' = upd H T (.tup [.int (i : Nat), x]) ∧ ∀ xs, SqT K H a xs → xs[i]? = some x, fun i H => ∃ xs : List V, SqT K H a xs ∧ xs.length ≤ i⟩
theorem turn_enumT {P : Program} {w : World} {K : PySem.W.Frag} {elts : List Expr} {kk : Nat} {tpos : Pos} (a e it : Addr) :
    Turn P w K (.Tuple elts kk tpos) (IteT K a) [e, it] e (fun i h => (∃ old, IsEnum h e it ((i : Nat) : Int) old) ∧ h.IsTupleIter it a i ∧ e ≠ it ∧ a ≠ it ∧ e ≠ a) where
  mem := by simp
  obj := fun i h st b hb => by
    obtain ⟨⟨old, he⟩, ⟨o, ho, hc, hd⟩, _⟩ := st
    have e' : b = e ∨ b = it := by simpa using hb
    rcases e' with z | z
    · rw [z]; exact ⟨_, he, fun v q => nomatch q⟩
    · rw [z]; exact ⟨o, ho, fun v q => by rw [hd] at q; cases q⟩
  keep := fun i h h' st k => let ⟨⟨old, he⟩, hi, hne⟩ := st; ⟨⟨old, k e (by simp) _ he⟩, hi.at fun o q => k it (by simp) o q, hne⟩
  item := by
    intro X hP hw hK hc i pins s σ H E I hf st hg
    subst hP hw hK
    obtain ⟨⟨old, he⟩, hit, hne, hai, hea⟩ := st
    obtain ⟨xs, x, hq, hx⟩ := hg
    obtain ⟨its, rv, p, hz⟩ := I.tuple hq
    obtain ⟨u, hu, ru⟩ := rv.get hx
    have hel : e < s.heap.objs.size := Heap.lt_size he
    have hil : it < s.heap.objs.size := by obtain ⟨_, q, _⟩ := hit; exact Heap.lt_size q
    have hlt : i < its.toArray.size := by
      have := (List.getElem?_eq_some_iff.mp hu).1
      simpa using this
    refine wpAny_pyNext_enum_itemC (Draws.tuple (prog := X.prog) (w := X.w) (A := X.A.in1) (I.ok.hd hc) it a hai its.toArray) he ⟨hit, show s.heap.IsTuple a its.toArray from p⟩ hlt hne (by simp [hne, hea]) fun u' h' tk hu' ho hit' hT hsz hk => ?_
    have eu : u' = u := by
      have q : its.toArray[i]? = some u := by simpa using hu
      rw [q] at hu'; exact (Option.some.inj hu').symm
    subst eu
    refine ⟨_, rfl, wpAny_letOwnedTupleGo_enum (s := { s with heap := h', toks := tk + 1 }) ho fun h'' he' sb => ?_⟩
    have hT2 : h''.get? s.heap.objs.size = some { cls := .type "tuple", data := .seq #[.int i tk, u'] } := (sb.2 _ (Nat.ne_of_gt hel)).trans hT
    have new : ObjOk X.prog X.w (upd H s.heap.objs.size (.tup [.int (i : Nat), x])) h'' s.heap.objs.size (.tup [.int (i : Nat), x]) :=
      ⟨by show 2 ≤ sizeLine; decide, [.int i tk, u'], .cons ⟨_, rfl⟩ (.cons ru .nil), ⟨_, hT2, rfl, _, rfl⟩⟩
    have I1 : Inv X pins σ (upd H s.heap.objs.size (.tup [.int (i : Nat), x])) { s with heap := h'', toks := tk + 1 } :=
      I.turnedNew (ch := [e, it]) (fun b ob hb q => (sb.2 b (fun z => hb (by simp [z]))).trans (hk b ob (fun z => hb (by simp [z])) (fun z => hb (by simp [z])) q)) hf (Nat.le_refl _) new
    refine ⟨.ref s.heap.objs.size, _, I1, rfl, ⟨_, x, rfl, I.hok.fresh (Nat.le_refl _), rfl, fun ys hy => by rw [I.tuple_inj hy hq]; exact hx⟩, ⟨⟨u', ?_⟩, hit'.1.at fun o q => (sb.2 it (Ne.symm hne)).trans q, hne, hai, hea⟩, fun b hb => ?_⟩
    · have e1 : ((i + 1 : Nat) : Int) = (i : Int) + 1 := by omega
      rw [e1]; exact he'
    · have hb' : b < s.heap.objs.size := by
        have e' : b = e ∨ b = it := by simpa using hb
        rcases e' with z | z
        · rw [z]; exact hel
        · rw [z]; exact hil
      rw [upd_ne (Nat.ne_of_lt hb')]
      exact (hf b hb).1
  done := by
    intro X hP hw hK hc i pins s σ H E I hf st hg
    subst hP hw hK
    obtain ⟨⟨old, he⟩, hit, hne, hai, hea⟩ := st
    obtain ⟨xs, hq, hx⟩ := hg
    obtain ⟨its, rv, p, hz⟩ := I.tuple hq
    obtain ⟨f0, f1, f2, f3, f4, f5⟩ := hf it (by simp)
    have hl := rv.length
    have pt : s.heap.IsTuple a its.toArray := p
    have T := turn_tuple (P := X.prog) (w := X.w) (K := X.K) (tg := .Tuple elts kk tpos) a it
    refine wpAny_pyNext_enum_endD (P := fun _ _ => False) (n := i) (fp := [it, a]) (St := fun j h => j = i ∧ h.IsTupleIter it a i ∧ h.IsTuple a its.toArray) ⟨fun _ _ q => let ⟨o, ho, _⟩ := q.2.1; ⟨o, ho⟩, fun _ _ _ q hk => ⟨q.1, q.2.1.at fun o z => hk it (by simp) o z, q.2.2.at fun o z => hk a (by simp) o z⟩,
      fun j s' Q' E' hj q _ => absurd q.1 (Nat.ne_of_lt hj), fun s' Q' E' q hE => wpAny_nextOf_tuple_end (I.ok.hd hc) q.2.1 q.2.2 (by simp; omega) hE⟩ he ⟨rfl, hit, pt⟩ fun h' eb => ⟨rfl, I.turned (t' := s.toks) (fun b o hb q => eb b o hb q) f0 f1 f3 f4 f5⟩
  self := fun A i s Q E st h => let ⟨⟨_, he⟩, _⟩ := st; wpAny_pyIter_enum he h
end
theorem meets_enumerate_new1 {v : Value} {o : Obj} {H : Heap → Prop} (B : Begins v o H) :
    Meets (Builtin.«enumerate.__new__» ⟨[.type "enumerate", v], []⟩) (fun _ R s => H s.heap ∧
      R (.ok (.ret (.ref (s.heap.push o).objs.size))) { s with heap := (s.heap.push o).push { cls := .type "enumerate", data := .fields #[.none, .bool false, .ref s.heap.objs.size, rawInt 0, .none, .none] } }) :=
  .of_wp fun prog w A R s h => by
    obtain ⟨hp, g, d, tk, os⟩ := s; obtain ⟨h1, h⟩ := h
    have hsub := sub_enumerate
    have q1 : ∀ {A' : Around} {E : Value → Shared → Prop} {Q : Value → Shared → Prop}, Q (.ref hp.objs.size) ⟨hp.push o, g, d, tk, os⟩ → wpAny (model prog w) A' (pyIter v) Q E ⟨hp, g, d, tk, os⟩ :=
      fun q => B.iter prog w _ _ ⟨hp, g, d, tk, os⟩ _ h1 q
    wp_walk using q1
    refine wpAny_stack_any fun st => wpAny_pure ?_
    split
    · rename_i c _ _ _ _ _
      cases (c == Value.type "enumerate")
      · wp_walk using q1
        exact ⟨_, rfl, h⟩
      · wp_walk using q1
        exact ⟨_, rfl, h⟩
    · wp_walk using q1
      exact ⟨_, rfl, h⟩
end Zl

set_option Elab.async false
set_option linter.all false
set_option maxRecDepth 100000
set_option maxHeartbeats 1000000
/-! Layer Z, part 6: what is walked, as data. -/
namespace Zl
open PySem PySem.Spec PyProof.Rows L2

section
variable {c : Wd}
theorem ok_list {K : PySem.W.Frag} {a : Addr} {vs : List V} {ds : List D} (g : c.G a = some (.lst vs)) (r : RVs c vs ds) : ItOk c (Itl K a) ds where
  step := fun i d c' st H l rs e => by
    have hH : H a = some (.lst vs) := rs.ext _ _ (l.G _ _ g)
    obtain ⟨v, e1, e2⟩ := r.get e
    refine ⟨⟨vs, v, SqL.of hH, e1⟩, fun x H' hy => ?_⟩
    obtain ⟨rfl, hy⟩ := hy
    have := hy vs (SqL.of hH)
    rw [e1] at this; cases this
    exact ⟨c', Wd.le.refl _, e2.monoR l, fun _ _ _ r => r⟩
  stop := fun c' st H l rs => ⟨vs, SqL.of (rs.ext _ _ (l.G _ _ g)), by rw [r.length]; exact Nat.le_refl _⟩
theorem ok_tup {K : PySem.W.Frag} {a : Addr} {vs : List V} {ds : List D} (g : c.G a = some (.tup vs)) (r : RVs c vs ds) : ItOk c (Itt K a) ds where
  step := fun i d c' st H l rs e => by
    have hH : H a = some (.tup vs) := rs.ext _ _ (l.G _ _ g)
    obtain ⟨v, e1, e2⟩ := r.get e
    refine ⟨⟨vs, v, SqT.of hH, e1⟩, fun x H' hy => ?_⟩
    obtain ⟨rfl, hy⟩ := hy
    have := hy vs (SqT.of hH)
    rw [e1] at this; cases this
    exact ⟨c', Wd.le.refl _, e2.monoR l, fun _ _ _ r => r⟩
  stop := fun c' st H l rs => ⟨vs, SqT.of (rs.ext _ _ (l.G _ _ g)), by rw [r.length]; exact Nat.le_refl _⟩
def chars (z : Str) : List D := z.cps.toList.map fun k => .str ⟨#[k]⟩
theorem ok_str {z : Str} : ItOk c (Its z) (chars z) where
  step := fun i d c' st H l rs e => by
    have hl : i < z.cps.size := by
      have := (List.getElem?_eq_some_iff.mp e).1
      simpa [chars] using this
    refine ⟨hl, fun x H' hy => ?_⟩
    obtain ⟨rfl, k, hk, rfl⟩ := hy
    have e' : (chars z)[i]? = some (.str ⟨#[k]⟩) := by
      unfold chars
      rw [List.getElem?_map, Array.getElem?_toList, hk]; rfl
    rw [e] at e'; cases e'
    exact ⟨c', Wd.le.refl _, .str _, fun _ _ _ r => r⟩
  stop := fun c' st H l rs => by
    show z.cps.size ≤ _
    simp [chars]
theorem ok_keys {a : Addr} {ep : Nat} {es : List Ent} {ks : List D} (g : c.G a = some (.ext (rawD a ep es))) (r : RVs c (es.map (·.2.1)) ks) : ItOk c (ItkN a ep es) ks where
  step := fun i d c' st H l rs e => by
    have hH : H a = some (.ext (rawD a ep es)) := rs.ext _ _ (l.G _ _ g)
    obtain ⟨v, e1, e2⟩ := r.get e
    have hl : i < es.length := by
      have := (List.getElem?_eq_some_iff.mp e1).1
      simpa using this
    refine ⟨⟨hH, hl⟩, fun x H' hy => ?_⟩
    obtain ⟨rfl, en, he, rfl⟩ := hy
    rw [List.getElem?_map, he] at e1
    cases e1
    exact ⟨c', Wd.le.refl _, e2.monoR l, fun _ _ _ r => r⟩
  stop := fun c' st H l rs => ⟨rs.ext _ _ (l.G _ _ g), by
    have := r.length
    simp at this
    omega⟩
theorem ok_items {a : Addr} {ep : Nat} {es : List Ent} {ks ws : List D} (g : c.G a = some (.ext (rawD a ep es))) (r1 : RVs c (es.map (·.2.1)) ks) (r2 : RVs c (es.map (·.2.2)) ws) : ItOk c (ItiN a ep es) (List.zipWith (fun k v => D.tup [k, v]) ks ws) where
  step := fun i d c' st H l rs e => by
    have hH : H a = some (.ext (rawD a ep es)) := rs.ext _ _ (l.G _ _ g)
    have hl : i < es.length := by
      have := (List.getElem?_eq_some_iff.mp e).1
      have q := r1.length
      simp at this q
      omega
    refine ⟨⟨hH, hl⟩, fun x H' hy => ?_⟩
    obtain ⟨T, en, he, rfl, hT, rfl⟩ := hy
    obtain ⟨k, ek, rk⟩ := r1.getV (i := i) (v := en.2.1) (by rw [List.getElem?_map, he]; rfl)
    obtain ⟨u, eu, ru⟩ := r2.getV (i := i) (v := en.2.2) (by rw [List.getElem?_map, he]; rfl)
    have e' : (List.zipWith (fun k v => D.tup [k, v]) ks ws)[i]? = some (D.tup [k, u]) := by
      rw [List.getElem?_zipWith, ek, eu]
    rw [e] at e'; cases e'
    have hG := rs.ext.free hT
    exact ⟨{ c' with G := upd c'.G T (.tup [en.2.1, en.2.2]) }, Wd.le_newG hG, .tup upd_same (.cons ((rk.monoR l).mono (Wd.le_newG hG)) (.cons ((ru.monoR l).mono (Wd.le_newG hG)) .nil)), fun _ _ _ r => r.newG hT⟩
  stop := fun c' st H l rs => ⟨rs.ext _ _ (l.G _ _ g), by
    have q1 := r1.length
    have q2 := r2.length
    simp at q1 q2 ⊢
    omega⟩
def pairs (n : Nat) : List D → List D
  | [] => []
  | d :: ds => .tup [.int n, d] :: pairs (n + 1) ds
theorem pairs_get : ∀ {ds : List D} {n i : Nat}, (pairs n ds)[i]? = (ds[i]?).map fun d => .tup [.int ((n + i : Nat) : Int), d]
  | [], _, _ => by simp [pairs]
  | d :: ds, n, 0 => by simp [pairs]
  | d :: ds, n, i + 1 => by
    simp only [pairs, List.getElem?_cons_succ]
    rw [pairs_get]
    have : n + 1 + i = n + (i + 1) := by omega
    rw [this]
theorem pairs_len : ∀ {ds : List D} {n : Nat}, (pairs n ds).length = ds.length
  | [], _ => rfl
  | d :: ds, n => by simp [pairs, pairs_len (ds := ds)]
theorem ok_enumL {K : PySem.W.Frag} {a : Addr} {vs : List V} {ds : List D} (g : c.G a = some (.lst vs)) (r : RVs c vs ds) : ItOk c (Ite K a) (pairs 0 ds) where
  step := fun i d c' st H l rs e => by
    have hH : H a = some (.lst vs) := rs.ext _ _ (l.G _ _ g)
    rw [pairs_get] at e
    obtain ⟨d0, e0, rfl⟩ := Option.map_eq_some_iff.mp e
    obtain ⟨v, e1, e2⟩ := r.get e0
    refine ⟨⟨vs, v, SqL.of hH, e1⟩, fun x H' hy => ?_⟩
    obtain ⟨T, y, rfl, hT, rfl, hy⟩ := hy
    have := hy vs (SqL.of hH)
    rw [e1] at this; cases this
    have hG := rs.ext.free hT
    refine ⟨{ c' with G := upd c'.G T (.tup [.int (i : Nat), v]) }, Wd.le_newG hG, .tup upd_same (.cons ?_ (.cons ((e2.monoR l).mono (Wd.le_newG hG)) .nil)), fun _ _ _ r => r.newG hT⟩
    have z : ((0 + i : Nat) : Int) = (i : Nat) := by simp
    rw [z]; exact .int _
  stop := fun c' st H l rs => ⟨vs, SqL.of (rs.ext _ _ (l.G _ _ g)), by rw [pairs_len, r.length]; exact Nat.le_refl _⟩
theorem ok_enumT {K : PySem.W.Frag} {a : Addr} {vs : List V} {ds : List D} (g : c.G a = some (.tup vs)) (r : RVs c vs ds) : ItOk c (IteT K a) (pairs 0 ds) where
  step := fun i d c' st H l rs e => by
    have hH : H a = some (.tup vs) := rs.ext _ _ (l.G _ _ g)
    rw [pairs_get] at e
    obtain ⟨d0, e0, rfl⟩ := Option.map_eq_some_iff.mp e
    obtain ⟨v, e1, e2⟩ := r.get e0
    refine ⟨⟨vs, v, SqT.of hH, e1⟩, fun x H' hy => ?_⟩
    obtain ⟨T, y, rfl, hT, rfl, hy⟩ := hy
    have := hy vs (SqT.of hH)
    rw [e1] at this; cases this
    have hG := rs.ext.free hT
    refine ⟨{ c' with G := upd c'.G T (.tup [.int (i : Nat), v]) }, Wd.le_newG hG, .tup upd_same (.cons ?_ (.cons ((e2.monoR l).mono (Wd.le_newG hG)) .nil)), fun _ _ _ r => r.newG hT⟩
    have z : ((0 + i : Nat) : Int) = (i : Nat) := by simp
    rw [z]; exact .int _
  stop := fun c' st H l rs => ⟨vs, SqT.of (rs.ext _ _ (l.G _ _ g)), by rw [pairs_len, r.length]; exact Nat.le_refl _⟩
def zipD (xs ys : List D) : List D := List.zipWith (fun k v => D.tup [k, v]) xs ys
theorem zip_get {xs ys : List D} {i : Nat} {d : D} (e : (zipD xs ys)[i]? = some d) : ∃ x y, xs[i]? = some x ∧ ys[i]? = some y ∧ d = .tup [x, y] := by
  unfold zipD at e
  rw [List.getElem?_zipWith] at e
  cases h1 : xs[i]? with
  | none => rw [h1] at e; cases e
  | some x =>
    cases h2 : ys[i]? with
    | none => rw [h1, h2] at e; cases e
    | some y => rw [h1, h2] at e; cases e; exact ⟨x, y, rfl, rfl, rfl⟩
theorem ok_zipL {K : PySem.W.Frag} {a b : Addr} {vs ws : List V} {ds es : List D} (g : c.G a = some (.lst vs)) (r : RVs c vs ds) (g2 : c.G b = some (.lst ws)) (r2 : RVs c ws es) : ItOk c (Itz K a b) (zipD ds es) where
  step := fun i d c' st H l rs e => by
    have hH : H a = some (.lst vs) := rs.ext _ _ (l.G _ _ g)
    have hH2 : H b = some (.lst ws) := rs.ext _ _ (l.G _ _ g2)
    obtain ⟨x, y, e1, e2, rfl⟩ := zip_get e
    obtain ⟨v, q1, q2⟩ := r.get e1
    obtain ⟨u, p1, p2⟩ := r2.get e2
    refine ⟨⟨vs, ws, v, u, SqL.of hH, SqL.of hH2, q1, p1⟩, fun z H' hy => ?_⟩
    obtain ⟨T, z1, z2, rfl, hT, rfl, hy, hy2⟩ := hy
    have := hy vs (SqL.of hH)
    rw [q1] at this; cases this
    have := hy2 ws (SqL.of hH2)
    rw [p1] at this; cases this
    have hG := rs.ext.free hT
    exact ⟨{ c' with G := upd c'.G T (.tup [v, u]) }, Wd.le_newG hG, .tup upd_same (.cons ((q2.monoR l).mono (Wd.le_newG hG)) (.cons ((p2.monoR l).mono (Wd.le_newG hG)) .nil)), fun _ _ _ r => r.newG hT⟩
  stop := fun c' st H l rs => ⟨vs, ws, SqL.of (rs.ext _ _ (l.G _ _ g)), SqL.of (rs.ext _ _ (l.G _ _ g2)), by
    have q1 := r.length
    have q2 := r2.length
    unfold zipD
    rw [List.length_zipWith]
    omega⟩
theorem ok_zipT {K : PySem.W.Frag} {a b : Addr} {vs ws : List V} {ds es : List D} (g : c.G a = some (.tup vs)) (r : RVs c vs ds) (g2 : c.G b = some (.tup ws)) (r2 : RVs c ws es) : ItOk c (RZ.ItzT K a b) (zipD ds es) where
  step := fun i d c' st H l rs e => by
    have hH : H a = some (.tup vs) := rs.ext _ _ (l.G _ _ g)
    have hH2 : H b = some (.tup ws) := rs.ext _ _ (l.G _ _ g2)
    obtain ⟨x, y, e1, e2, rfl⟩ := zip_get e
    obtain ⟨v, q1, q2⟩ := r.get e1
    obtain ⟨u, p1, p2⟩ := r2.get e2
    refine ⟨⟨vs, ws, v, u, SqT.of hH, SqT.of hH2, q1, p1⟩, fun z H' hy => ?_⟩
    obtain ⟨T, z1, z2, rfl, hT, rfl, hy, hy2⟩ := hy
    have := hy vs (SqT.of hH)
    rw [q1] at this; cases this
    have := hy2 ws (SqT.of hH2)
    rw [p1] at this; cases this
    have hG := rs.ext.free hT
    exact ⟨{ c' with G := upd c'.G T (.tup [v, u]) }, Wd.le_newG hG, .tup upd_same (.cons ((q2.monoR l).mono (Wd.le_newG hG)) (.cons ((p2.monoR l).mono (Wd.le_newG hG)) .nil)), fun _ _ _ r => r.newG hT⟩
  stop := fun c' st H l rs => ⟨vs, ws, SqT.of (rs.ext _ _ (l.G _ _ g)), SqT.of (rs.ext _ _ (l.G _ _ g2)), by
    have q1 := r.length
    have q2 := r2.length
    unfold zipD
    rw [List.length_zipWith]
    omega⟩
def rng (lo : Int) : Nat → List D
  | 0 => []
  | n + 1 => .int lo :: rng (lo + 1) n
theorem rng_get : ∀ {n : Nat} {lo : Int} {i : Nat}, i < n → (rng lo n)[i]? = some (.int (lo + i))
  | 0, _, _, h => by omega
  | n + 1, lo, 0, _ => by simp [rng]
  | n + 1, lo, i + 1, h => by
    simp only [rng, List.getElem?_cons_succ]
    rw [rng_get (by omega)]
    have : lo + 1 + (i : Int) = lo + ((i + 1 : Nat) : Int) := by omega
    rw [this]
theorem rng_len : ∀ {n : Nat} {lo : Int}, (rng lo n).length = n
  | 0, _ => rfl
  | n + 1, lo => by simp [rng, rng_len (n := n)]
theorem ok_rng {lo : Int} {n : Nat} : ItOk c (Itr lo n) (rng lo n) where
  step := fun i d c' st H l rs e => by
    have hl : i < n := by
      have := (List.getElem?_eq_some_iff.mp e).1
      rw [rng_len] at this; exact this
    refine ⟨hl, fun x H' hy => ?_⟩
    obtain ⟨rfl, rfl⟩ := hy
    rw [rng_get hl] at e
    cases e
    exact ⟨c', Wd.le.refl _, .int _, fun _ _ _ r => r⟩
  stop := fun c' st H l rs => by
    show n ≤ _
    rw [rng_len]; exact Nat.le_refl _
end

/-- what walking a value hands out -/
def items : D → Option (List D)
  | .lst ds => some ds
  | .tup ds => some ds
  | .str z => some (chars z)
  | .dct ks _ => some ks
  | _ => none
def R.asL (r : R) (k : D → Option (List D)) : Rl := match r with
  | .ok d st => (match k d with | some ds => .ok ds st | none => .stuck)
  | .rz x st => .rz x st
  | .stuck => .stuck
def zIt (f : ZE) : ZL := fun vars st => ((f vars st).bind frz).asL items
theorem PostI.asL {W : WX} {c : Wd} {vars : Vars} {σ : L2.St} {J : It → Hp → Prop} {r : R} {k : D → Option (List D)} (p : PostI W c vars σ J (r.asL k)) :
    PostE W c vars σ (fun v H' => ∃ c' d st' ds, c.le c' ∧ Rel c' vars st' σ H' ∧ RV c' v d ∧ k d = some ds ∧ PostI W c' vars σ J (.ok ds st')) r := by
  cases r with
  | ok d st =>
    unfold R.asL at p
    dsimp only at p
    cases e : k d with
    | none => rw [e] at p; exact p.elim
    | some ds => rw [e] at p; exact fun v c' H' l r rv => ⟨c', d, st, ds, l, r, rv, e, fun c2 H2 J l2 r2 ok => p c2 H2 J (l.trans l2) r2 ok⟩
  | rz x st => exact p
  | stuck => exact p
section
variable {X : Cx} {W : WZ} {tg e e2 : Expr} {f : ZE} {l : ZL} {p pos apos cpos : Pos}
theorem di_it (h : DE X W e f) : DI X W tg e (zIt f) := by
  refine ⟨fun pins s σ H R I hz => ?_⟩
  obtain ⟨c, vars, st, hw, hm, rel, q⟩ := hz
  refine thn ((de_frz h).run pins s σ H _ I ⟨c, vars, st, hw, hm, rel, PostI.asL q⟩) fun v s1 ⟨x, H1, I1, r1, c1, d, st1, ds, l1, R1, rv, e1, q1⟩ => ?_
  cases rv with
  | lst g s =>
    cases (show v = Value.ref _ from r1)
    cases (show some _ = some ds from e1)
    exact pie_list I1 (SqL.of (R1.ext _ _ g)) (q1 c1 H1 _ (Wd.le.refl _) R1 (ok_list g s))
  | tup g s =>
    cases (show v = Value.ref _ from r1)
    cases (show some _ = some ds from e1)
    exact pie_tup I1 (SqT.of (R1.ext _ _ g)) (q1 c1 H1 _ (Wd.le.refl _) R1 (ok_tup g s))
  | str z =>
    obtain ⟨t, rfl⟩ := r1
    cases (show some _ = some ds from e1)
    exact pie_str I1 (q1 c1 H1 _ (Wd.le.refl _) R1 ok_str)
  | dct g s1 s2 =>
    cases (show v = Value.ref _ from r1)
    cases (show some _ = some ds from e1)
    exact pie_keysN I1 (R1.ext _ _ g) (q1 c1 H1 _ (Wd.le.refl _) R1 (ok_keys g s1))
  | _ => exact nomatch (show none = some ds from e1)
/-- the arguments of range: small -/
def rngs1 : List D → Option (List D)
  | [.int j] => if decide (-(2 ^ 62) ≤ j) && decide (j < 2 ^ 62) then some (rng 0 j.toNat) else none
  | _ => none
def rngs2 : List D → Option (List D)
  | [.int i, .int j] => if decide (-(2 ^ 62) ≤ i) && decide (i < 2 ^ 62) && decide (-(2 ^ 62) ≤ j) && decide (j < 2 ^ 62) then some (rng i (j - i).toNat) else none
  | _ => none
def Rl.asL (r : Rl) (k : List D → Option (List D)) : Rl := match r with
  | .ok d st => (match k d with | some ds => .ok ds st | none => .stuck)
  | .rz x st => .rz x st
  | .stuck => .stuck
theorem PostI.asLL {W : WX} {c : Wd} {vars : Vars} {σ : L2.St} {R : It → Hp → Prop} {r : Rl} {k : List D → Option (List D)} (p : PostI W c vars σ R (r.asL k)) :
    PostL W c vars σ (fun v H' => ∃ c' d st' ds, c.le c' ∧ Rel c' vars st' σ H' ∧ RVs c' v d ∧ k d = some ds ∧ PostI W c' vars σ R (.ok ds st')) r := by
  cases r with
  | ok d st =>
    unfold Rl.asL at p
    dsimp only at p
    cases e : k d with
    | none => rw [e] at p; exact p.elim
    | some ds => rw [e] at p; exact fun v c' H' l r rv => ⟨c', d, st, ds, l, r, rv, e, fun c2 H2 J l2 r2 ok => p c2 H2 J (l.trans l2) r2 ok⟩
  | rz x st => exact p
  | stuck => exact p
def zRng1 (l : ZL) : ZL := fun vars st => (l vars st).asL rngs1
def zRng2 (l : ZL) : ZL := fun vars st => (l vars st).asL rngs2
theorem RVs.one {c : Wd} {vs : List V} {d : D} (r : RVs c vs [d]) : ∃ v, vs = [v] ∧ RV c v d := by
  cases r with
  | cons a b => cases b; exact ⟨_, rfl, a⟩
theorem RVs.two {c : Wd} {vs : List V} {d e : D} (r : RVs c vs [d, e]) : ∃ v u, vs = [v, u] ∧ RV c v d ∧ RV c u e := by
  cases r with
  | cons a b => cases b with
    | cons a' b => cases b; exact ⟨_, _, rfl, a, a'⟩
theorem rngs_one {ds l : List D} (h : rngs1 ds = some l) : ∃ j : Int, ds = [.int j] ∧ -(2 ^ 62) ≤ j ∧ j < 2 ^ 62 ∧ l = rng 0 j.toNat := by
  unfold rngs1 at h
  split at h
  · rename_i j
    by_cases q : (decide (-(2 ^ 62) ≤ j) && decide (j < 2 ^ 62)) = true
    · rw [if_pos q] at h
      simp only [Bool.and_eq_true, decide_eq_true_eq] at q
      cases h
      exact ⟨j, rfl, q.1, q.2, rfl⟩
    · rw [if_neg q] at h; cases h
  · cases h
theorem rngs_two {ds l : List D} (h : rngs2 ds = some l) : ∃ i j : Int, ds = [.int i, .int j] ∧ (-(2 ^ 62) ≤ i ∧ i < 2 ^ 62 ∧ -(2 ^ 62) ≤ j ∧ j < 2 ^ 62) ∧ l = rng i (j - i).toNat := by
  unfold rngs2 at h
  split at h
  · rename_i i j
    by_cases q : (decide (-(2 ^ 62) ≤ i) && decide (i < 2 ^ 62) && decide (-(2 ^ 62) ≤ j) && decide (j < 2 ^ 62)) = true
    · rw [if_pos q] at h
      simp only [Bool.and_eq_true, decide_eq_true_eq] at q
      cases h
      exact ⟨i, j, rfl, ⟨q.1.1.1, q.1.1.2, q.1.2, q.2⟩, rfl⟩
    · rw [if_neg q] at h; cases h
  · cases h
theorem di_range1 (hg : Gl X "range") (hmr : X.mg "range" = none) (h : DA X W [e] l) (hs : starEach [e] X.env = [(false, eval e X.env)] := by rfl) : DI X W tg (.Call (.Name "range" p) [e] [] pos) (zRng1 l) := (pi_range1 hg hmr h hs).imp fun σ H R ⟨c, vars, st, hw, hm, rel, q⟩ =>
  ⟨c, vars, st, hw, hm, rel, (PostI.asLL q).imp fun vs H1 ⟨c1, ds, st1, xs, l1, R1, rv, e1, q1⟩ => by
    obtain ⟨j, rfl, h1, h2, rfl⟩ := rngs_one e1
    obtain ⟨v, rfl, r⟩ := rv.one
    cases r
    exact ⟨j, rfl, h1, h2, q1 c1 H1 _ (Wd.le.refl _) R1 ok_rng⟩⟩
theorem di_range2 (hg : Gl X "range") (hmr : X.mg "range" = none) (h : DA X W [e, e2] l) (hs : starEach [e, e2] X.env = [(false, eval e X.env), (false, eval e2 X.env)] := by rfl) (hs2 : starEach [e2] X.env = [(false, eval e2 X.env)] := by rfl) : DI X W tg (.Call (.Name "range" p) [e, e2] [] pos) (zRng2 l) := (pi_range2 hg hmr h hs hs2).imp fun σ H R ⟨c, vars, st, hw, hm, rel, q⟩ =>
  ⟨c, vars, st, hw, hm, rel, (PostI.asLL q).imp fun vs H1 ⟨c1, ds, st1, xs, l1, R1, rv, e1, q1⟩ => by
    obtain ⟨i, j, rfl, h1, rfl⟩ := rngs_two e1
    obtain ⟨v, u, rfl, r, r'⟩ := rv.two
    cases r
    cases r'
    exact ⟨i, j, rfl, h1, q1 c1 H1 _ (Wd.le.refl _) R1 ok_rng⟩⟩
/-! ### enumerate -/
def enums : D → Option (List D)
  | .lst ds => some (pairs 0 ds)
  | .tup ds => some (pairs 0 ds)
  | _ => none
def zEnum (f : ZE) : ZL := fun vars st => ((f vars st).bind frz).asL enums
theorem di_enum {elts : List Expr} {kk : Nat} {tpos : Pos} (hg : Gl X "enumerate") (hme : X.mg "enumerate" = none) (h : DE X W e f) (hs : starEach [e] X.env = (false, eval e X.env) :: starEach [] X.env := by rfl) :
    DI X W (.Tuple elts kk tpos) (.Call (.Name "enumerate" p) [e] [] pos) (zEnum f) := by
  refine ⟨fun pins s σ H R I hz => ?_⟩
  obtain ⟨c, vars, st, hw, hm, rel, q⟩ := hz
  refine Call_ (ld_blt I hg hme boot_enumerate (PyProof.Rows.callWith_type1 ?_ hs rfl))
  rw [hs]
  show wpAny _ _ (spliced ((false, eval e X.env) :: backTo pos (starEach [] X.env))) _ _ s
  refine Calls.spliced_cons (thn ((de_frz h).run pins s σ H _ I ⟨c, vars, st, hw, hm, rel, PostI.asL q⟩) fun v s1 ⟨x, H1, I1, r1, c1, d, st1, ds, l1, R1, rv, e1, q1⟩ => Calls.spliced_nil ?_)
  cases rv with
  | lst g s =>
    cases (show v = Value.ref _ from r1)
    cases (show some _ = some ds from e1)
    have hq : SqL X.K H1 _ _ := SqL.of (R1.ext _ _ g)
    obtain ⟨its, rv, p', hz⟩ := I1.list hq
    refine call_enumerate_list p'.isList fun h' he hit hsz hk => wpAny_pyIter_enum he ?_
    have I2 : Inv X pins σ H1 { s1 with heap := h' } := I1.kept (t' := s1.toks) hk
    refine ⟨s1.heap.objs.size + 1, [s1.heap.objs.size + 1, s1.heap.objs.size], _, _, H1, rfl, I2, turn_enum _ (s1.heap.objs.size + 1) s1.heap.objs.size, ⟨⟨.none, he⟩, hit, Nat.succ_ne_self _⟩, fun b hb => ?_, q1 c1 H1 _ (Wd.le.refl _) R1 (ok_enumL g s)⟩
    have e' : b = s1.heap.objs.size + 1 ∨ b = s1.heap.objs.size := by simpa using hb
    have hle : s1.heap.objs.size ≤ b := by
      rcases e' with z | z
      · rw [z]; exact Nat.le_add_right _ _
      · rw [z]; exact Nat.le_refl _
    exact I1.fpOk hle (I1.hok.fresh hle)
  | @tup a vs ds' g s =>
    cases (show v = Value.ref _ from r1)
    cases (show some _ = some ds from e1)
    have hq : SqT X.K H1 _ _ := SqT.of (R1.ext _ _ g)
    obtain ⟨its, rv, p', hz⟩ := I1.tuple hq
    have pt : s1.heap.IsTuple a its.toArray := p'
    have hlt : a < s1.heap.objs.size := by obtain ⟨o, ho, _⟩ := pt; exact Heap.lt_size ho
    refine callType_new F.called_enumerate (by decide) (F.typeCall_enumerate_1 _) (F.newCall_enumerate_1 _) (fun obj => F.args_object_init_2 obj _) F.entry_enumerate_new (meets_enumerate_new1 (begins_tuple a its.toArray)) ⟨pt, ?_⟩
    have hz : (s1.heap.push { cls := .type "tuple_iterator", data := .fields #[.ref a, .int 0 0] }).objs.size = s1.heap.objs.size + 1 := Heap.size_push ..
    show _ ∧ _
    rw [hz]
    have he : IsEnum ((s1.heap.push { cls := .type "tuple_iterator", data := .fields #[.ref a, .int 0 0] }).push
        { cls := .type "enumerate", data := .fields #[.none, .bool false, .ref s1.heap.objs.size, rawInt 0, .none, .none] }) (s1.heap.objs.size + 1) s1.heap.objs.size 0 .none := by
      have := Heap.get?_push_size (s1.heap.push { cls := .type "tuple_iterator", data := .fields #[.ref a, .int 0 0] })
        (o := { cls := .type "enumerate", data := .fields #[.none, .bool false, .ref s1.heap.objs.size, rawInt 0, .none, .none] }) rfl
      rw [hz] at this; exact this
    refine ⟨⟨_, he, rfl⟩, wpAny_pyIter_enum (s := { s1 with heap := _ }) he ?_⟩
    have I2 : Inv X pins σ H1 { s1 with heap := (s1.heap.push { cls := .type "tuple_iterator", data := .fields #[.ref a, .int 0 0] }).push { cls := .type "enumerate", data := .fields #[.none, .bool false, .ref s1.heap.objs.size, rawInt 0, .none, .none] } } := I1.kept (t' := s1.toks) fun b o x => Heap.get?_push_of_some _ (Heap.get?_push_of_some _ x)
    refine ⟨s1.heap.objs.size + 1, [s1.heap.objs.size + 1, s1.heap.objs.size], _, _, H1, rfl, I2, turn_enumT a (s1.heap.objs.size + 1) s1.heap.objs.size, ⟨⟨.none, he⟩, ⟨_, Heap.get?_push_of_some _ (Heap.get?_push_size _ rfl), rfl, rfl⟩, Nat.succ_ne_self _, Nat.ne_of_lt hlt, Nat.ne_of_gt (Nat.lt_succ_of_lt hlt)⟩, fun b hb => ?_, q1 c1 H1 _ (Wd.le.refl _) R1 (ok_enumT g s)⟩
    have e' : b = s1.heap.objs.size + 1 ∨ b = s1.heap.objs.size := by simpa using hb
    have hle : s1.heap.objs.size ≤ b := by
      rcases e' with z | z
      · rw [z]; exact Nat.le_add_right _ _
      · rw [z]; exact Nat.le_refl _
    exact I1.fpOk hle (I1.hok.fresh hle)
  | _ => exact nomatch (show none = some ds from e1)
/-! ### zip, two lists or two tuples -/
def zips : List D → Option (List D)
  | [.lst xs, .lst ys] => some (zipD xs ys)
  | [.tup xs, .tup ys] => some (zipD xs ys)
  | _ => none
def zZip (l : ZL) : ZL := fun vars st => (l vars st).asL zips
theorem di_zip {elts : List Expr} {kk : Nat} {tpos : Pos} (hg : Gl X "zip") (hmz : X.mg "zip" = none) (h : DA X W [e, e2] l)
    (hs : starEach [e, e2] X.env = (false, eval e X.env) :: starEach [e2] X.env := by rfl) (hpl : (backTo pos (starEach [e2] X.env)).any (·.1) = false := by rfl) :
    DI X W (.Tuple elts kk tpos) (.Call (.Name "zip" p) [e, e2] [] pos) (zZip l) := (RZ.pi_zipA hg hmz h hs hpl).imp fun σ H R ⟨c, vars, st, hw, hm, rel, q⟩ =>
  ⟨c, vars, st, hw, hm, rel, (PostI.asLL q).imp fun vs H1 ⟨c1, ds, st1, xs, l1, R1, rv, e1, q1⟩ => by
    unfold zips at e1
    split at e1
    · obtain ⟨v, u, rfl, r, r'⟩ := rv.two
      cases e1
      cases r with
      | lst g s => cases r' with
        | lst g' s' => exact ⟨_, _, _, _, rfl, .inl ⟨SqL.of (R1.ext _ _ g), SqL.of (R1.ext _ _ g'), q1 c1 H1 _ (Wd.le.refl _) R1 (ok_zipL g s g' s')⟩⟩
    · obtain ⟨v, u, rfl, r, r'⟩ := rv.two
      cases e1
      cases r with
      | tup g s => cases r' with
        | tup g' s' => exact ⟨_, _, _, _, rfl, .inr ⟨SqT.of (R1.ext _ _ g), SqT.of (R1.ext _ _ g'), q1 c1 H1 _ (Wd.le.refl _) R1 (ok_zipT g s g' s')⟩⟩
    · cases e1⟩
/-! ### d.items() -/
def dits : D → Option (List D)
  | .dct ks vs => some (List.zipWith (fun k v => D.tup [k, v]) ks vs)
  | _ => none
def zItems (f : ZE) : ZL := fun vars st => ((f vars st).bind frz).asL dits
theorem di_items {elts : List Expr} {kk : Nat} {tpos : Pos} (h : DE X W e f) (hbase : attributeBase e "items" X.env (eval e X.env) = eval e X.env := by rfl) (hline : (apos.endLine == cpos.line) = true := by rfl) :
    DI X W (.Tuple elts kk tpos) (.Call (.Attribute e "items" apos) [] [] cpos) (zItems f) := by
  refine ⟨fun pins s σ H R I hz => ?_⟩
  obtain ⟨c, vars, st, hw, hm, rel, q⟩ := hz
  refine wpAny_Call_method (T := "dict") (id := "dict.items") hbase rfl hline F.plainAttrs_dict F.slot_dict_items F.type_dict_items (thn ((de_frz h).run pins s σ H _ I ⟨c, vars, st, hw, hm, rel, PostI.asL q⟩) fun v s1 ⟨x, H1, I1, r1, c1, d, st1, ds, l1, R1, rv, e1, q1⟩ => ?_)
  cases rv with
  | @dct a ep es ks vs nk g s1' s2' h3 h4 h5 =>
    cases (show v = Value.ref _ from r1)
    cases (show some _ = some ds from e1)
    have hd := R1.ext _ _ g
    obtain ⟨hs, hz, dz, hr, hsz, ent⟩ := raw_at I1.hok hd
    obtain ⟨o, ho, hx, hdat⟩ := id hr
    refine ⟨hr.typeIs, fun b eb => by injection eb with eb; subst eb; exact ⟨o, ho, hx.2.1⟩, ?_⟩
    have I2 : Inv X pins σ H1 { s1 with heap := s1.heap.push { cls := .type "dict_items", data := .fields #[.ref a] } } := I1.kept (t' := s1.toks) fun b ob q => Heap.get?_push_of_some _ q
    have fin : wpAny (model X.prog X.w) X.A (pyIter (.ref s1.heap.objs.size)) (PIE X pins σ (.Tuple elts kk tpos) R) X.xe { s1 with heap := s1.heap.push { cls := .type "dict_items", data := .fields #[.ref a] } } := by
      refine wpAny_pyIter_items_raw (d := a) ⟨_, Heap.get?_push_size _ rfl, rfl, rfl⟩ (hr.at fun o e => Heap.get?_push_of_some _ e) (pi_one (tk := s1.toks) I2 _ (turn_itemsN _) ⟨.none, .none, ?_⟩ (q1 c1 H1 _ (Wd.le.refl _) R1 (ok_items g s1' s2')))
      rw [← hsz]
      exact Heap.get?_push_size _ rfl
    show wpAny _ _ (callWith cpos (.builtin "dict.items") [.ref a] [] []) _ X.xe s1
    exact method_meetsIn F.slot_dict_items F.entry_dict_items rfl (PySem.evalArgs_none ⟨rfl, hr.typeIs, F.args_dict_items_1 _, _, meets_dict_items_raw a hs, ⟨dz, _, hr⟩, fin⟩)
  | _ => exact nomatch (show none = some ds from e1)
end
end Zl

set_option Elab.async false
set_option linter.all false
set_option maxRecDepth 100000
set_option maxHeartbeats 1000000
/-! Layer Z, part 7: list comprehensions. -/
namespace Zl
open PySem PySem.Spec PyProof.Rows L2

/-! ### an object that is foreign for a while -/
abbrev Wd.f (c : Wd) (F : Hp) : Wd := { c with F := F }
theorem upd_upd {H : Hp} {a : Addr} {o o' : HO} : upd (upd H a o) a o' = upd H a o' := by
  funext b
  unfold upd
  by_cases h : b = a <;> simp [h]
section
variable {c : Wd} {st : Sto} {H F : Hp} {a : Addr} {o : HO}
/-- a new object is guarded: it stays while others run -/
theorem RelS.guard (r : RelS c st H) (hH : H a = none) (n : ∀ ps, o ≠ .tbl ps) : RelS (c.f (upd c.F a o)) st (upd H a o) := by
  obtain ⟨h1, h2, h3⟩ := Rel.fresh r hH
  refine ⟨r.ext.upd h1, fun b u e => ?_, fun b u e => ?_, r.len, r.nd, fun n d e => ?_, fun n d e => ?_, fun P hP => ?_, fun q hq => ?_, r.tdj⟩
  · have e : upd c.F a o b = some u := e
    by_cases q : b = a
    · subst q; rw [upd_same] at e ⊢; exact e
    · rw [upd_ne q] at e ⊢; exact r.fr b u e
  · show upd c.F a o b = none
    rw [upd_ne (ne_of_none e h1)]
    exact r.dj b u e
  · obtain ⟨b, e1, e2, e3, l⟩ := r.live n d e
    have q : b ≠ a := fun z => h3 (z ▸ List.mem_of_getElem? e1)
    exact ⟨b, e1, e2, by show upd c.F a o b = none; rw [upd_ne q]; exact e3, (l.monoR (Wd.leR.refl c).toF).at fun u z => by rw [upd_ne q]; exact z⟩
  · obtain ⟨b, u, e1, e2, rv⟩ := r.dead n d e
    exact ⟨b, u, e1, e2, rv.monoR (Wd.leR.refl c).toF⟩
  · obtain ⟨t1, t2, t3, ps, t4, t5⟩ := r.tb P hP
    have q : P ≠ a := ne_of_none t4 hH
    exact ⟨t1, by show upd c.F a o P = none; rw [upd_ne q]; exact t2, t3, ps, by rw [upd_ne q]; exact t4, t5⟩
  · obtain ⟨t1, t2, t3, ps, t4, t5, t6⟩ := r.tl q hq
    have z : q.1 ≠ a := ne_of_none t4 hH
    exact ⟨t1, by show upd c.F a o q.1 = none; rw [upd_ne z]; exact t2, t3, ps, by rw [upd_ne z]; exact t4, t5, t6⟩
/-- others own nothing of it any more -/
theorem RelS.loose (r : RelS c st H) (hF : c.F = upd F a o) (h2 : F a = none) : RelS (c.f F) st H := by
  have sub : ∀ b, c.F b = none → F b = none := fun b e => by
    rw [hF] at e
    by_cases q : b = a
    · rw [q]; exact h2
    · rw [upd_ne q] at e; exact e
  refine ⟨r.ext, fun b u e => r.fr b u ?_, fun b u e => sub b (r.dj b u e), r.len, r.nd, fun n d e => ?_, fun n d e => ?_, fun P hP => ?_, fun q hq => ?_, r.tdj⟩
  · rw [hF, upd_ne (ne_of_none e h2)]; exact e
  · obtain ⟨b, e1, e2, e3, l⟩ := r.live n d e
    exact ⟨b, e1, e2, sub b e3, l.monoR (Wd.leR.refl c).toF⟩
  · obtain ⟨b, u, e1, e2, rv⟩ := r.dead n d e
    exact ⟨b, u, e1, e2, rv.monoR (Wd.leR.refl c).toF⟩
  · obtain ⟨t1, t2, t3, t4⟩ := r.tb P hP
    exact ⟨t1, sub _ t2, t3, t4⟩
  · obtain ⟨t1, t2, t3, t4⟩ := r.tl q hq
    exact ⟨t1, sub _ t2, t3, t4⟩
/-- the guarded object has changed -/
theorem RelS.regard {o' : HO} (r : RelS c st H) (hF : c.F = upd F a o) : RelS (c.f (upd F a o')) st (upd H a o') := by
  have hFa : c.F a = some o := by rw [hF, upd_same]
  have hGa : c.G a = none := by
    cases q : c.G a with
    | none => rfl
    | some u => have := r.dj a u q; rw [hFa] at this; cases this
  have hix : a ∉ c.ix := r.notF hFa
  have ne : ∀ b, c.F b = none → b ≠ a := fun b e z => by rw [z, hFa] at e; cases e
  have sub : ∀ b, c.F b = none → upd F a o' b = none := fun b e => by
    have q := ne b e
    rw [upd_ne q]
    rw [hF, upd_ne q] at e
    exact e
  refine ⟨r.ext.upd hGa, fun b u e => ?_, fun b u e => sub b (r.dj b u e), r.len, r.nd, fun n d e => ?_, fun n d e => ?_, fun P hP => ?_, fun q hq => ?_, r.tdj⟩
  · have e : upd F a o' b = some u := e
    by_cases q : b = a
    · subst q; rw [upd_same] at e ⊢; exact e
    · rw [upd_ne q] at e ⊢
      exact r.fr b u (by rw [hF, upd_ne q]; exact e)
  · obtain ⟨b, e1, e2, e3, l⟩ := r.live n d e
    have q := ne b e3
    exact ⟨b, e1, e2, sub b e3, (l.monoR (Wd.leR.refl c).toF).at fun u z => by rw [upd_ne q]; exact z⟩
  · obtain ⟨b, u, e1, e2, rv⟩ := r.dead n d e
    exact ⟨b, u, e1, e2, rv.monoR (Wd.leR.refl c).toF⟩
  · obtain ⟨t1, t2, t3, ps, t4, t5⟩ := r.tb P hP
    exact ⟨t1, sub _ t2, t3, ps, by rw [upd_ne (ne _ t2)]; exact t4, t5⟩
  · obtain ⟨t1, t2, t3, ps, t4, t5, t6⟩ := r.tl q hq
    exact ⟨t1, sub _ t2, t3, ps, by rw [upd_ne (ne _ t2)]; exact t4, t5, t6⟩
/-- the guarded object is known for ever -/
theorem RelS.known (r : RelS c st H) (hF : c.F = upd F a o) (h2 : F a = none) : RelS { c.f F with G := upd c.G a o } st H := by
  have hFa : c.F a = some o := by rw [hF, upd_same]
  have hGa : c.G a = none := by
    cases q : c.G a with
    | none => rfl
    | some u => have := r.dj a u q; rw [hFa] at this; cases this
  have L := r.loose hF h2
  have le : (c.f F).le { c.f F with G := upd c.G a o } := Wd.le_newG hGa
  have ne : ∀ b, c.F b = none → b ≠ a := fun b e z => by rw [z, hFa] at e; cases e
  refine ⟨fun b u e => ?_, L.fr, fun b u e => ?_, L.len, L.nd, fun n d e => ?_, fun n d e => ?_, fun P hP => ?_, fun q hq => ?_, r.tdj⟩
  · have e : upd c.G a o b = some u := e
    by_cases q : b = a
    · subst q; rw [upd_same] at e; cases e; exact r.fr _ _ hFa
    · rw [upd_ne q] at e; exact r.ext b u e
  · have e : upd c.G a o b = some u := e
    by_cases q : b = a
    · rw [q]; exact h2
    · rw [upd_ne q] at e; exact L.dj b u e
  · obtain ⟨b, e1, e2, e3, l⟩ := r.live n d e
    have q := ne b e3
    refine ⟨b, e1, by show upd c.G a o b = none; rw [upd_ne q]; exact e2, ?_, (l.monoR (Wd.leR.refl c).toF).mono le⟩
    show F b = none
    rw [hF, upd_ne q] at e3; exact e3
  · obtain ⟨b, u, e1, e2, rv⟩ := r.dead n d e
    exact ⟨b, u, e1, le.G _ _ e2, (rv.monoR (Wd.leR.refl c).toF).mono le⟩
  · obtain ⟨t1, t2, t3, t4⟩ := L.tb P hP
    obtain ⟨_, t2', _⟩ := r.tb P hP
    exact ⟨by show upd c.G a o P = none; rw [upd_ne (ne _ t2')]; exact t1, t2, t3, t4⟩
  · obtain ⟨t1, t2, t3, ps, t4, t5, t6⟩ := L.tl q hq
    obtain ⟨_, t2', _⟩ := r.tl q hq
    exact ⟨by show upd c.G a o q.1 = none; rw [upd_ne (ne _ t2')]; exact t1, t2, t3, ps, t4, t5, fun pos cv h => let ⟨b, e1, e2⟩ := t6 pos cv h; ⟨b, e1, le.G _ _ e2⟩⟩
/-- the guarded object is the store's from now on -/
theorem RelS.owned {d : D} (r : RelS c st H) (hF : c.F = upd F a o) (h2 : F a = none) (l : Live c H a d) : RelS { c.f F with ix := c.ix ++ [a] } (st ++ [(true, d)]) H := by
  have hFa : c.F a = some o := by rw [hF, upd_same]
  have hGa : c.G a = none := by
    cases q : c.G a with
    | none => rfl
    | some u => have := r.dj a u q; rw [hFa] at this; cases this
  have hix : a ∉ c.ix := r.notF hFa
  have L := r.loose hF h2
  have le : (c.f F).le { c.f F with ix := c.ix ++ [a] } := Wd.le_newL
  refine ⟨L.ext, L.fr, L.dj, by simp [L.len], ?_, fun n d' e => ?_, fun n d' e => ?_, fun P hP => ?_, fun q hq => ?_, r.tdj⟩
  · refine List.nodup_append.mpr ⟨r.nd, by simp, fun x hx b hb => ?_⟩
    have e : b = a := by simpa using hb
    subst e
    exact fun z => hix (z ▸ hx)
  · by_cases hn : n < st.length
    · rw [List.getElem?_append_left hn] at e
      obtain ⟨b, e1, e2, e3, l'⟩ := L.live n d' e
      refine ⟨b, ?_, e2, e3, l'.mono le⟩
      show (c.ix ++ [a])[n]? = some b
      rw [List.getElem?_append_left (by rw [r.len]; exact hn)]
      exact e1
    · have e' : n = st.length := by
        rw [List.getElem?_append_right (by omega)] at e
        have := (List.getElem?_eq_some_iff.mp e).1
        simp at this; omega
      subst e'
      simp at e
      subst e
      exact ⟨a, by show (c.ix ++ [a])[st.length]? = some a; rw [← r.len]; simp, hGa, h2, (l.monoR (Wd.leR.refl c).toF).mono le⟩
  · have hn : n < st.length := by
      have := (List.getElem?_eq_some_iff.mp e).1
      rw [List.length_append, List.length_singleton] at this
      rcases Nat.lt_or_ge n st.length with z | z
      · exact z
      · have e' : n = st.length := by omega
        subst e'
        simp at e
    rw [List.getElem?_append_left hn] at e
    obtain ⟨b, u, e1, e2, rv⟩ := L.dead n d' e
    refine ⟨b, u, ?_, e2, rv.mono le⟩
    show (c.ix ++ [a])[n]? = some b
    rw [List.getElem?_append_left (by rw [r.len]; exact hn)]; exact e1
  · obtain ⟨t1, t2, t3, t4⟩ := L.tb P hP
    obtain ⟨_, t2', _⟩ := r.tb P hP
    refine ⟨t1, t2, fun hm => (List.mem_append.mp hm).elim t3 fun hm => ?_, t4⟩
    rw [List.mem_singleton.mp hm, hFa] at t2'; cases t2'
  · obtain ⟨t1, t2, t3, t4⟩ := L.tl q hq
    obtain ⟨_, t2', _⟩ := r.tl q hq
    refine ⟨t1, t2, fun hm => (List.mem_append.mp hm).elim t3 fun hm => ?_, t4⟩
    rw [List.mem_singleton.mp hm, hFa] at t2'; cases t2'
end
theorem wipe_wipe {σ : L2.St} {vs : List Nat} : L2.wipe (L2.wipe σ vs) vs = L2.wipe σ vs := by
  apply List.ext_getElem?
  intro i
  rw [wipe_get, wipe_get, wipe_length]
  by_cases h : i ∈ vs ∧ i < σ.length
  · rw [if_pos h, if_pos h]
  · rw [if_neg h, if_neg h]
theorem But.wiped {vs : List Nat} {σ σ' : L2.St} (b : But vs (L2.wipe σ vs) σ') : L2.wipe σ' vs = L2.wipe σ vs := b.wipe.trans wipe_wipe

/-! ### [elt for tg in iter if t] -/
def R.tstL (r : R) (k : Bool → Sto → Rl) : Rl := match r with
  | .ok (.bl b) st => k b st
  | _ => .stuck
def zLcL (g : ZG) (t : ZE) (f : ZE) (v0 : Vars) : List D → Sto → Rl
  | [], st => .ok [] st
  | d :: ds, st => match g d v0 with
    | none => .stuck
    | some v1 => (t v1 st).tstL fun b st => if b = true then (match f v1 st with
      | .ok y st => (match zLcL g t f v0 ds st with
        | .ok ys st => .ok (y :: ys) st
        | _ => .stuck)
      | _ => .stuck) else zLcL g t f v0 ds st
def zYes : ZE := fun _ st => .ok (.bl true) st
def zLc (m : Bool) (fi : ZL) (g : ZG) (t f : ZE) (own : List Nat) : ZE := fun vars st => match fi vars st with
  | .ok items st => (match zLcL g t f (wipeD vars own) items st with
    | .ok ys st => if ys.length ≤ sizeLine then newD m (.lst ys) st else .stuck
    | _ => .stuck)
  | .rz x st => .rz x st
  | .stuck => .stuck
section
variable {X : Cx} {W : WZ} {e : Expr} {f : ZE} {pos : Pos}
structure DTs (X : Cx) (W : WZ) (ifs : List Expr) (t : ZE) : Prop where
  ts : PTs X ifs (zT X.w (Cx.md X W) W.x t)
theorem dts_nil : DTs X W [] zYes := ⟨⟨fun pins s σ H Q I ⟨c, vars, st, hw, hm, rel, q⟩ => wpAny_tests_nil ⟨H, I, q c H (Wd.le.refl _) rel⟩⟩⟩
theorem dts_one (h : DT X W e f) : DTs X W [e] f := ⟨pts_one h⟩
end
/-- the inner turns of a comprehension -/
theorem ent_lc {X : Cx} {W : WZ} {σ : L2.St} {H : Hp} {Q : VK} {own : List Nat} {fi : ZL} {g : ZG} {t f : ZE} {m : Bool} (h : zE X.w (Cx.md X W) W.x (zLc m fi g t f own) σ H Q) :
    tLc (zTI X.w (Cx.md X W) W.x fi) (zTG X.w (Cx.bs X) own g) (zT X.w (Cx.md X W) (fun _ _ _ _ => False) t) (zE X.w (Cx.md X W) (fun _ _ _ _ => False) f) own σ H Q := by
  obtain ⟨c, vars, st, hw, hm, rel, q⟩ := h
  refine ⟨c, vars, st, hw, hm, rel, ?_⟩
  unfold zLc at q
  cases ef : fi vars st with
  | stuck => rw [ef] at q; exact q
  | rz x st' => rw [ef] at q; exact q
  | ok items st1 =>
  rw [ef] at q
  dsimp only at q
  intro c1 H1 J l1 r1 ok Da hD
  obtain ⟨f1, f2, f3⟩ := Rel.fresh r1.toRelS hD
  have q := PostE.mono l1 q
  refine ⟨fun i n H => n + i = items.length ∧ ∃ (c2 : Wd) (st2 : Sto) (acc : List D) (accV : List V), c1.leR c2 ∧ c2.F = upd c1.F Da (.lst accV) ∧ RelS c2 st2 H ∧ RVs c2 accV acc ∧
    ∃ ys st3, zLcL g t f (wipeD vars own) (items.drop i) st2 = .ok ys st3 ∧ (acc ++ ys).length ≤ sizeLine ∧ PostE W.x c1 vars σ Q (newD m (.lst (acc ++ ys)) st3), ⟨items.length, Nat.add_zero _, c1.f (upd c1.F Da (.lst [])), st1, [], [], (Wd.leR.refl c1).toF, rfl, r1.toRelS.guard hD (fun _ z => by cases z), .nil, ?_⟩, ?_⟩
  · rw [List.drop_zero]
    cases ez : zLcL g t f (wipeD vars own) items st1 with
    | ok ys st3 =>
      rw [ez] at q
      dsimp only at q
      by_cases hz : ys.length ≤ sizeLine
      · rw [if_pos hz] at q
        exact ⟨ys, st3, rfl, hz, q⟩
      · rw [if_neg hz] at q; exact q.elim
    | rz x st => rw [ez] at q; exact q.elim
    | stuck => rw [ez] at q; exact q.elim
  rintro i n H2 ⟨hn, c2, st2, acc, accV, l2, hF, r2, rv2, ys, st3, ez, hz, p⟩
  have hF2 : c2.F Da = some (.lst accV) := by rw [hF, upd_same]
  have hHD : H2 Da = some (.lst accV) := r2.fr _ _ hF2
  have rL := r2.loose hF f2
  cases n with
  | zero =>
    have hi : i = items.length := by omega
    subst hi
    rw [List.drop_length] at ez
    unfold zLcL at ez
    cases ez
    rw [List.append_nil] at p
    refine .inl ⟨ok.stop (c2.f c1.F) st2 H2 l2.toF rL, ?_⟩
    have Rn : ∀ {c' : Wd} {st' : Sto}, c1.leR c' → RelS c' st' H2 → Rel c' vars st' σ H2 := fun l s => Rel.ofR (r := r1) l s
    have hG2 : c2.G Da = none := by
      cases q : c2.G Da with
      | none => rfl
      | some u => have := r2.dj Da u q; rw [hF2] at this; cases this
    cases m with
    | false =>
      have R' := r2.known hF f2
      have le : (c2.f c1.F).le { c2.f c1.F with G := upd c2.G Da (.lst accV) } := Wd.le_newG hG2
      have lf : c1.le { c2.f c1.F with G := upd c2.G Da (.lst accV) } := ⟨l2.w, l2.md, l2.G.trans le.G, rfl, l2.ix⟩
      exact p (.ref Da) _ H2 lf (Rn lf.R R') (.lst upd_same ((rv2.monoR (Wd.leR.refl c2).toF).mono le))
    | true =>
      have R' := r2.owned (d := .lst acc) hF f2 ⟨accV, hHD, rv2⟩
      have lf : c1.le { c2.f c1.F with ix := c2.ix ++ [Da] } := ⟨l2.w, l2.md, l2.G, rfl, l2.ix.trans (List.prefix_append _ _)⟩
      refine p (.ref Da) _ H2 lf (Rn lf.R R') (.loc ?_)
      show (c2.ix ++ [Da])[st2.length]? = some Da
      rw [← r2.len]; simp
  | succ n =>
    have hi : i < items.length := by omega
    have ei := List.getElem?_eq_getElem hi
    obtain ⟨go, _⟩ := ok.step i items[i] (c2.f c1.F) st2 H2 l2.toF rL ei
    rw [List.drop_eq_getElem_cons hi] at ez
    unfold zLcL at ez
    cases eg : g items[i] (wipeD vars own) with
    | none => rw [eg] at ez; cases ez
    | some v1 =>
    rw [eg] at ez
    dsimp only at ez
    have w2 : c2.w = X.w := l2.w.trans (l1.w.trans hw)
    have m2 : c2.md = Cx.md X W := l2.md.trans (l1.md.trans hm)
    refine .inr ⟨go, fun H' => n + (i + 1) = items.length ∧ ∃ (c2 : Wd) (st2 : Sto) (acc : List D) (accV : List V), c1.leR c2 ∧ c2.F = upd c1.F Da (.lst accV) ∧ RelS c2 st2 H' ∧ RVs c2 accV acc ∧
      ∃ ys st3, zLcL g t f (wipeD vars own) (items.drop (i + 1)) st2 = .ok ys st3 ∧ (acc ++ ys).length ≤ sizeLine ∧ PostE W.x c1 vars σ Q (newD m (.lst (acc ++ ys)) st3), fun H' h' => ⟨n, Nat.lt_succ_self n, h'⟩, fun x H' hy => ?_⟩
    obtain ⟨_, yl⟩ := ok.step i items[i] c2 st2 H2 l2 r2 ei
    obtain ⟨c3, l3, rx, up⟩ := yl x H' hy
    have r3 := up _ _ _ (Rel.ofR (r := r1.wipe own) l2 r2)
    have hF3 : c3.F = upd c1.F Da (.lst accV) := l3.F.trans hF
    refine ⟨c3, wipeD vars own, v1, st2, items[i], l3.w.trans w2, (l3.b.trans (mgo m2)), r3, rx, eg, fun c4 σ4 H4 l4 r4 b4 => ⟨b4.wiped, c4, v1, st2, l4.w.trans (l3.w.trans w2), l4.md.trans (l3.md.trans m2), r4, ?_⟩⟩
    have l14 : c1.leR c4 := (l2.trans l3.R).trans l4.R
    have hF4 : c4.F = upd c1.F Da (.lst accV) := l4.F.trans hF3
    unfold R.tstL at ez
    cases et : t v1 st2 with
    | stuck => rw [et] at ez; cases ez
    | rz x st => rw [et] at ez; cases ez
    | ok d st4 =>
    rw [et] at ez
    cases d with
    | bl b =>
      dsimp only at ez
      intro c5 H5 l5 r5
      have l15 := l14.trans l5.R
      have hF5 : c5.F = upd c1.F Da (.lst accV) := l5.F.trans hF4
      have rv5 : RVs c5 accV acc := ((rv2.mono l3).mono l4).mono l5
      cases b with
      | false =>
        rw [if_neg Bool.false_ne_true] at ez
        rw [if_neg Bool.false_ne_true]
        exact ⟨by omega, c5, st4, acc, accV, l15, hF5, r5.toRelS, rv5, ys, st3, ez, hz, p⟩
      | true =>
        rw [if_pos rfl] at ez
        rw [if_pos rfl]
        cases ee : f v1 st4 with
        | stuck => rw [ee] at ez; cases ez
        | rz x st => rw [ee] at ez; cases ez
        | ok y st5 =>
          rw [ee] at ez
          dsimp only at ez
          cases er : zLcL g t f (wipeD vars own) (items.drop (i + 1)) st5 with
          | stuck => rw [er] at ez; cases ez
          | rz x st => rw [er] at ez; cases ez
          | ok zs st6 =>
            rw [er] at ez
            cases ez
            refine ⟨c5, v1, st4, l5.w.trans (l4.w.trans (l3.w.trans w2)), l5.md.trans (l4.md.trans (l3.md.trans m2)), r5, ?_⟩
            rw [ee]
            intro vy c6 H6 l6 r6 ry
            have hF6 : c6.F = upd c1.F Da (.lst accV) := l6.F.trans hF5
            have hD6 : H6 Da = some (.lst accV) := r6.fr _ _ (by rw [hF6, upd_same])
            have hlen : accV.length < sizeLine := by
              have := rv2.length
              simp at hz
              omega
            refine ⟨accV, hD6, hlen, by omega, c6.f (upd c1.F Da (.lst (accV ++ [vy]))), st5, acc ++ [y], accV ++ [vy], (l15.trans l6.R).toF, rfl, r6.toRelS.regard hF6, ((rv5.mono l6).append (.cons ry .nil)).monoR (Wd.leR.refl c6).toF, zs, _, er, by simpa using hz, by simpa using p⟩
    | _ => cases ez
section
variable {X : Cx} {W : WZ} {elt tg iter : Expr} {ifs : List Expr} {scope : Scope} {own : List (Str × Nat)} {pos spos : Pos} {fi : ZL} {g : ZG} {t f : ZE}
theorem de_lc (m : Bool) (hc : X.calm = true) (hN : X.N.Nodup) (hi : DI X W tg iter fi) (ok : BlkOk X.N X.env.scope scope own)
    (hg : ∀ (s : Shared) (H : Hp) (C : Addr) (cl : List (Str × Addr)) (fp : List Addr), DG (X.blk s H scope (compEnvC scope cl C X.env) fp) (own.map (·.2)) tg g) (ht : ∀ (s : Shared) (H : Hp) (C : Addr) (cl : List (Str × Addr)) (fp : List Addr), DTs (X.blk s H scope (compEnvC scope cl C X.env) fp) W.q ifs t)
    (he : ∀ (s : Shared) (H : Hp) (C : Addr) (cl : List (Str × Addr)) (fp : List Addr), DE (X.blk s H scope (compEnvC scope cl C X.env) fp) W.q elt f) (hs : ∀ x, foldedSetIterable iter X.env x = pure x := by intro _; rfl) :
    DE X W (.ListComp elt [⟨tg, iter, ifs, 0⟩] scope pos) (zLc m fi g t f (own.map (·.2))) :=
  (pe_lc hc hN hi ok hg (fun s H C cl fp => (ht s H C cl fp).ts) he hs).imp fun σ H Q h => ent_lc h
theorem ds_setLc {i : Nat} {y : Str} {py : Pos} (m : Bool) (hc : X.calm = true) (hN : X.N.Nodup) (hy : X.N[i]? = some y) (hyl : X.env.scope.names.lookup y = some .local)
    (hsw : swapsWith (.ListComp elt [⟨tg, iter, ifs, 0⟩] scope pos) (some (.Name y py)) spos.line X.env = pure true) (hi : DI X W tg iter fi) (ok : BlkOk X.N X.env.scope scope own)
    (hg : ∀ (s : Shared) (H : Hp) (C : Addr) (cl : List (Str × Addr)) (fp : List Addr), DG (X.blk s H scope (compEnvC scope cl C X.env) fp) (own.map (·.2)) tg g) (ht : ∀ (s : Shared) (H : Hp) (C : Addr) (cl : List (Str × Addr)) (fp : List Addr), DTs (X.blk s H scope (compEnvC scope cl C X.env) fp) W.q ifs t)
    (he : ∀ (s : Shared) (H : Hp) (C : Addr) (cl : List (Str × Addr)) (fp : List Addr), DE (X.blk s H scope (compEnvC scope cl C X.env) fp) W.q elt f) (hs : ∀ x, foldedSetIterable iter X.env x = pure x := by intro _; rfl) :
    DS X W (.Assign [.Name y py] (.ListComp elt [⟨tg, iter, ifs, 0⟩] scope pos) spos) (sAsg (zLc m fi g t f (own.map (·.2))) (gN i)) :=
  (ps_setLc hc hN hy hyl hsw hi ok hg (fun s H C cl fp => (ht s H C cl fp).ts) he hs).imp fun E σ H ⟨c, vars, st, hw, hm, rel, q⟩ => ent_lc ⟨c, vars, st, hw, hm, rel, (PostE.bindS q).imp fun v H' ⟨c', d, st', l, r, rv, p⟩ => p c' _ H' (Wd.le.refl _) (r.set i rv)⟩
end
end Zl

set_option Elab.async false
set_option linter.all false
set_option maxRecDepth 100000
set_option maxHeartbeats 1000000
/-! Layer Z, part 8: defs, calls. -/
namespace Zl
open PySem PySem.Spec PyProof.Rows L2

/-! ### what a def does, as data -/
inductive Ro where
  | ok (d : D)
  | rz (x : Exn)
  | stuck
/-- of known arguments -/
abbrev FA := List D → Ro
/-- of arguments and the store -/
abbrev FB := List D → Sto → R
def PostA (c : Wd) (Q : VK) (E : XK) : Ro → Prop
  | .ok d => ∀ v c' st' H', D.pure d = true → c.le c' → RelS c' st' H' → RV c' v d → Q v H'
  | .rz x => ∀ c' st' H' cls dd, D.pures x.vs = true → c.le c' → RelS c' st' H' → XR c' x cls dd → E cls dd H'
  | .stuck => False
def PostB (c : Wd) (Q : VK) (E : XK) : R → Prop
  | .ok d st' => ∀ v c' H', c.le c' → RelS c' st' H' → RV c' v d → Q v H'
  | .rz x st' => ∀ c' H' cls dd, c.le c' → RelS c' st' H' → XR c' x cls dd → E cls dd H'
  | .stuck => False
def spA (w : World) (md : Md) (g : FA) : Sp := fun vs H Q E => ∃ c ds, c.w = w ∧ c.md = md ∧ c.ix = [] ∧ RelS c [] H ∧ RVs c vs ds ∧ D.pures ds = true ∧ PostA c Q E (g ds)
def spB (w : World) (md : Md) (g : FB) : Sp := fun vs H Q E => ∃ c st ds, c.w = w ∧ c.md = md ∧ RelS c st H ∧ RVs c vs ds ∧ PostB c Q E (g ds st)
/-- the name x of the module holds such a def -/
def OkF (P : Program) (w : World) (K : PySem.W.Frag) (mg : Str → Option Value) (base : Heap) (k : Nat) (x : Str) (sp : Sp) : Prop :=
  ∃ f fd ps, mg x = some (.ref f) ∧ PySem.W.keepIn K (.ref f) = true ∧ Binds K fd ps [] ∧ FnOk P w K mg base (L2.CX P w) k f fd ps sp
abbrev OkA (P : Program) (w : World) (K : PySem.W.Frag) (mg : Str → Option Value) (base : Heap) (md : Md) (k : Nat) (x : Str) (g : FA) : Prop := OkF P w K mg base k x (spA w md g)
abbrev OkB (P : Program) (w : World) (K : PySem.W.Frag) (mg : Str → Option Value) (base : Heap) (md : Md) (k : Nat) (x : Str) (g : FB) : Prop := OkF P w K mg base k x (spB w md g)
theorem OkF.mono {P : Program} {w : World} {K : PySem.W.Frag} {mg : Str → Option Value} {base : Heap} {j k : Nat} {x : Str} {sp : Sp} (F : OkF P w K mg base j x sp) (h : j ≤ k) : OkF P w K mg base k x sp :=
  let ⟨f, fd, ps, a, b, c, d⟩ := F; ⟨f, fd, ps, a, b, c, d.mono h⟩

/-! ### freezing, by what comes -/
theorem frz_ex {c : Wd} {vars : Vars} {st st' : Sto} {σ : L2.St} {H : Hp} {v : V} {d d' : D} (r : Rel c vars st σ H) (rv : RV c v d) (e : frz d st = .ok d' st') : ∃ c', c.le c' ∧ Rel c' vars st' σ H ∧ RV c' v d' := by
  have p : PostE (fun _ _ _ _ => False) c vars σ (fun v' H' => v' = v → H' = H → ∃ c', c.le c' ∧ Rel c' vars st' σ H ∧ RV c' v d') (frz d st) := by
    rw [e]
    rintro v' c' H' l r' rv' rfl rfl
    exact ⟨c', l, r', rv'⟩
  exact frz_out r rv p rfl rfl
def frzs : List D → Sto → Rl
  | [], st => .ok [] st
  | d :: ds, st => match frz d st with
    | .ok d st => (match frzs ds st with
      | .ok ds st => .ok (d :: ds) st
      | _ => .stuck)
    | _ => .stuck
theorem frzs_ex {vars : Vars} {σ : L2.St} {H : Hp} : ∀ {vs : List V} {ds ds' : List D} {c : Wd} {st st' : Sto}, Rel c vars st σ H → RVs c vs ds → frzs ds st = .ok ds' st' → ∃ c', c.le c' ∧ Rel c' vars st' σ H ∧ RVs c' vs ds'
  | _, _, _, c, _, _, r, .nil, e => by
    unfold frzs at e; cases e
    exact ⟨c, Wd.le.refl _, r, .nil⟩
  | _, _, _, c, st, st', r, .cons a b, e => by
    unfold frzs at e
    split at e
    · rename_i d1 st1 e1
      split at e
      · rename_i ds1 st2 e2
        cases e
        obtain ⟨c1, l1, r1, a1⟩ := frz_ex r a e1
        obtain ⟨c2, l2, r2, b2⟩ := frzs_ex r1 (b.mono l1) e2
        exact ⟨c2, l1.trans l2, r2, .cons (a1.mono l2) b2⟩
      · cases e
    · cases e

/-! ### the callee's world -/
/-- what a callee sees of the store: others' -/
noncomputable def away (c : Wd) (H : Hp) : Hp := by
  classical exact fun a => if a ∈ c.ix ∧ c.G a = none then H a else c.F a
theorem away_in {c : Wd} {H : Hp} {a : Addr} (h : a ∈ c.ix) (g : c.G a = none) : away c H a = H a := by
  unfold away; exact if_pos ⟨h, g⟩
theorem away_out {c : Wd} {H : Hp} {a : Addr} (h : ¬ (a ∈ c.ix ∧ c.G a = none)) : away c H a = c.F a := by
  unfold away; exact if_neg h
noncomputable abbrev Wd.callee (c : Wd) (H : Hp) : Wd := { c with F := away c H, ix := [] }
theorem RelS.callee {c : Wd} {st : Sto} {H : Hp} (r : RelS c st H) : RelS (c.callee H) [] H := by
  refine ⟨r.ext, fun a o e => ?_, fun a o e => ?_, rfl, List.nodup_nil, fun n d e => by simp at e, fun n d e => by simp at e, fun P hP => ?_, fun q hq => ?_, r.tdj⟩
  · have e : away c H a = some o := e
    by_cases h : a ∈ c.ix ∧ c.G a = none
    · rw [away_in h.1 h.2] at e; exact e
    · rw [away_out h] at e; exact r.fr a o e
  · show away c H a = none
    rw [away_out (fun z => by rw [e] at z; cases z.2)]
    exact r.dj a o e
  · obtain ⟨t1, t2, t3, t4⟩ := r.tb P hP
    exact ⟨t1, by show away c H P = none; rw [away_out (fun z => t3 z.1)]; exact t2, by simp, t4⟩
  · obtain ⟨t1, t2, t3, t4⟩ := r.tl q hq
    exact ⟨t1, by show away c H q.1 = none; rw [away_out (fun z => t3 z.1)]; exact t2, by simp, t4⟩
/-- back from the call -/
theorem RelS.back {c c' : Wd} {st st' : Sto} {H H' : Hp} (r : RelS c st H) (l : (c.callee H).le c') (r' : RelS c' st' H') : RelS { c with G := c'.G } st H' := by
  have hF : c'.F = away c H := l.F
  have hG : Ex c.G c'.G := l.G
  have sub : ∀ a, c'.F a = none → c.F a = none := fun a e => by
    rw [hF] at e
    by_cases h : a ∈ c.ix ∧ c.G a = none
    · obtain ⟨o, ho⟩ := r.tr a h.1
      rw [away_in h.1 h.2, ho] at e; cases e
    · rw [away_out h] at e; exact e
  have le : c.le { c with G := c'.G } := ⟨rfl, rfl, hG, rfl, List.prefix_refl _⟩
  refine ⟨r'.ext, fun a o e => ?_, fun a o e => sub a (r'.dj a o e), r.len, r.nd, fun n d e => ?_, fun n d e => ?_, fun P hP => ?_, fun q hq => ?_, r.tdj⟩
  · refine r'.fr a o ?_
    rw [hF]
    by_cases h : a ∈ c.ix ∧ c.G a = none
    · exact absurd h.1 (r.notF e)
    · rw [away_out h]; exact e
  · obtain ⟨a, e1, e2, e3, lv⟩ := r.live n d e
    have hm := List.mem_of_getElem? e1
    obtain ⟨o, ho⟩ := lv.some
    have hFa : c'.F a = some o := by rw [hF, away_in hm e2]; exact ho
    have hGa : c'.G a = none := by
      cases q : c'.G a with
      | none => rfl
      | some u => have := r'.dj a u q; rw [hFa] at this; cases this
    exact ⟨a, e1, hGa, e3, (lv.at fun u hu => by rw [ho] at hu; cases hu; exact r'.fr _ _ hFa).mono le⟩
  · obtain ⟨a, o, e1, e2, rv⟩ := r.dead n d e
    exact ⟨a, o, e1, hG _ _ e2, rv.mono le⟩
  · have hP' : P ∈ c'.T := by show P ∈ c'.md.T; rw [l.md]; exact hP
    obtain ⟨t1, t2, _, t4⟩ := r'.tb P hP'
    obtain ⟨_, s2, s3, _⟩ := r.tb P hP
    exact ⟨t1, s2, s3, t4⟩
  · have hP' : q ∈ c'.TL := by show q ∈ c'.md.TL; rw [l.md]; exact hq
    obtain ⟨t1, t2, _, t4⟩ := r'.tl q hP'
    obtain ⟨_, s2, s3, _⟩ := r.tl q hq
    exact ⟨t1, s2, s3, t4⟩
theorem back_G {c c' : Wd} {H : Hp} (l : (c.callee H).le c') : c'.leG { c with G := c'.G } := ⟨l.w.symm, l.b.symm, Ex.refl _⟩
theorem XR.monoG {c c' : Wd} (h : c.leG c') {x : Exn} {cls : Value} {dd : Option Addr} (p : D.pures x.vs = true) (r : XR c x cls dd) : XR c' x cls dd := by
  obtain ⟨C, e, m, r⟩ := r
  refine ⟨C, e, by rw [h.mg]; exact m, ?_⟩
  rcases r with r | ⟨d, fs, e1, e2, e3, r⟩
  · exact .inl r
  · exact .inr ⟨d, fs, e1, h.G _ _ e2, e3, r.monoG h p⟩

/-! ### a call -/
def zCallA (g : FA) (l : ZL) : ZE := fun vars st => (l vars st).bind fun ds st => match frzs ds st with
  | .ok ds st => if D.pures ds = true then (match g ds with
    | .ok d => .ok d st
    | .rz x => .rz x st
    | .stuck => .stuck) else .stuck
  | _ => .stuck
def zCallB (g : FB) (l : ZL) : ZE := fun vars st => (l vars st).bind g
theorem ent_callA {X : Cx} {W : WZ} {σ : L2.St} {H : Hp} {Q : VK} {g : FA} {c : Wd} {vars : Vars} {st : Sto} {ds : List D} {vs : List V} (hw : c.w = X.w) (hm : c.md = Cx.md X W) (rel : Rel c vars st σ H) (rv : RVs c vs ds)
    (p : PostE W.x c vars σ Q (match frzs ds st with
      | .ok ds st => if D.pures ds = true then (match g ds with
        | .ok d => .ok d st
        | .rz x => .rz x st
        | .stuck => .stuck) else .stuck
      | _ => .stuck)) : spA X.w (Cx.md X W) g vs H Q (WE W.x σ) := by
  cases e : frzs ds st with
  | stuck => rw [e] at p; exact p.elim
  | rz x st => rw [e] at p; exact p.elim
  | ok ds' st' =>
    rw [e] at p
    dsimp only at p
    by_cases hp : D.pures ds' = true
    · rw [if_pos hp] at p
      obtain ⟨c2, l2, r2, rv2⟩ := frzs_ex rel rv e
      refine ⟨c2.callee H, ds', l2.w.trans hw, l2.md.trans hm, rfl, r2.toRelS.callee, rv2.monoG (c := c2) (c' := c2.callee H) ⟨rfl, rfl, Ex.refl _⟩ hp, hp, ?_⟩
      cases eg : g ds' with
      | stuck => rw [eg] at p; exact p.elim
      | ok d =>
        rw [eg] at p
        intro v c' st3 H' hd l r' rv'
        have B := r2.toRelS.back l r'
        have le : c2.le { c2 with G := c'.G } := ⟨rfl, rfl, l.G, rfl, List.prefix_refl _⟩
        exact p v _ H' (l2.trans le) (Rel.of (r := r2) le B) (rv'.monoG (back_G l) hd)
      | rz x =>
        rw [eg] at p
        intro c' st3 H' cls dd hd l r' xr
        have B := r2.toRelS.back l r'
        have le : c2.le { c2 with G := c'.G } := ⟨rfl, rfl, l.G, rfl, List.prefix_refl _⟩
        exact p _ H' cls dd (l2.trans le) (Rel.of (r := r2) le B) (xr.monoG (back_G l) hd)
    · rw [if_neg hp] at p; exact p.elim
theorem ent_callB {X : Cx} {W : WZ} {σ : L2.St} {H : Hp} {Q : VK} {g : FB} {c : Wd} {vars : Vars} {st : Sto} {ds : List D} {vs : List V} (hw : c.w = X.w) (hm : c.md = Cx.md X W) (rel : Rel c vars st σ H) (rv : RVs c vs ds)
    (p : PostE W.x c vars σ Q (g ds st)) : spB X.w (Cx.md X W) g vs H Q (WE W.x σ) := by
  refine ⟨c, st, ds, hw, hm, rel.toRelS, rv, ?_⟩
  cases eg : g ds st with
  | stuck => rw [eg] at p; exact p
  | ok d st' =>
    rw [eg] at p
    exact fun v c' H' l r' rv' => p v c' H' l (Rel.of (r := rel) l r') rv'
  | rz x st' =>
    rw [eg] at p
    exact fun c' H' cls dd l r' xr => p c' H' cls dd l (Rel.of (r := rel) l r') xr
/-- what a derivation asks of its context -/
structure Zx (X : Cx) (W : WZ) (k : Nat) : Prop where
  room : Room k X.A
  px : ∀ σ, PassesAt (L2.CX X.prog X.w) X σ (WE W.x σ)
  calm : X.calm = true
  nd : X.N.Nodup
theorem px_false {X : Cx} {σ : L2.St} : PassesAt (L2.CX X.prog X.w) X σ (WE (fun _ _ _ _ => False) σ) := fun _ _ _ _ _ _ ⟨_, _, _, _, _, _, _, _, _, _, _, _, h⟩ => h.elim
theorem Zx.blk {X : Cx} {W : WZ} {k : Nat} (z : Zx X W k) {s : Shared} {H : Hp} {scope : Scope} {cenv : Env} {fp : List Addr} : Zx (X.blk s H scope cenv fp) W.q k := ⟨z.room, fun σ => px_false, z.calm, z.nd⟩
theorem Zx.gx {X : Cx} {W : WZ} {k j : Nat} (z : Zx X W k) {Ae : Around} {s4 : Shared} {H4 : Hp} {cenv : Env} {fp : List Addr} {pn : List (Addr × Obj)} (r : Room j Ae) : Zx (gxCx X Ae s4 H4 cenv fp pn) W.q j := ⟨r, fun σ => px_false, rfl, z.nd⟩
section
variable {X : Cx} {W : WZ} {k : Nat} {x : Str} {p pos : Pos} {e : Expr} {es : List Expr} {l : ZL}
theorem de_callA {g : FA} (z : Zx X W k) (F : OkA X.prog X.w X.K X.mg X.base (Cx.md X W) k x g) (ha : DA X W (e :: es) l) (hg : Gl X x := by rfl) (hdb : (x == ("__debug__" : Str)) = false := by decide)
    (he : starEach (e :: es) X.env = (false, eval e X.env) :: starEach es X.env := by rfl) (hpl : (backTo pos (starEach es X.env)).any (·.1) = false := by rfl) : DE X W (.Call (.Name x p) (e :: es) [] pos) (zCallA g l) := by
  obtain ⟨f, fd, ps, hm, hk, hb, F⟩ := F
  exact (pe_callS F z.room hg hm hk hb z.px ha hdb he hpl).imp fun σ H Q ⟨c, vars, st, hw, hm, rel, q⟩ =>
    ⟨c, vars, st, hw, hm, rel, (PostL.bind q).imp fun vs H1 ⟨c1, ds, st1, l1, r1, rv, p1⟩ => ent_callA (l1.w.trans hw) (l1.md.trans hm) r1 rv p1⟩
theorem de_callB {g : FB} (z : Zx X W k) (F : OkB X.prog X.w X.K X.mg X.base (Cx.md X W) k x g) (ha : DA X W (e :: es) l) (hg : Gl X x := by rfl) (hdb : (x == ("__debug__" : Str)) = false := by decide)
    (he : starEach (e :: es) X.env = (false, eval e X.env) :: starEach es X.env := by rfl) (hpl : (backTo pos (starEach es X.env)).any (·.1) = false := by rfl) : DE X W (.Call (.Name x p) (e :: es) [] pos) (zCallB g l) := by
  obtain ⟨f, fd, ps, hm, hk, hb, F⟩ := F
  exact (pe_callS F z.room hg hm hk hb z.px ha hdb he hpl).imp fun σ H Q ⟨c, vars, st, hw, hm, rel, q⟩ =>
    ⟨c, vars, st, hw, hm, rel, (PostL.bind q).imp fun vs H1 ⟨c1, ds, st1, l1, r1, rv, p1⟩ => ent_callB (l1.w.trans hw) (l1.md.trans hm) r1 rv p1⟩
end

/-! ### a def, by its body -/
def startD (n : Nat) (ds : List D) : Vars := ds.map some ++ List.replicate (n - ds.length) none
def toA (r : Rs) : Ro := match r with
  | .ret d st => (match frz d st with
    | .ok d' _ => if D.pure d' = true then .ok d' else .stuck
    | _ => .stuck)
  | .nx _ _ => .ok .non
  | .rz x _ _ => if D.pures x.vs = true then .rz x else .stuck
  | _ => .stuck
def toB (r : Rs) : R := match r with
  | .ret d st => .ok d st
  | .nx _ st => .ok .non st
  | .rz x _ st => .rz x st
  | _ => .stuck
/-- n parameters among N names -/
def mA (n N : Nat) (m : ZS) : FA := fun ds => if ds.length = n then toA (m (startD N ds) []) else .stuck
def mB (n N : Nat) (m : ZS) : FB := fun ds st => if ds.length = n then toB (m (startD N ds) st) else .stuck
theorem start_rel {c : Wd} {st : Sto} {H : Hp} {N : List Str} {vs : List V} {ds : List D} (r : RelS c st H) (rv : RVs c vs ds) : Rel c (startD N.length ds) st (L2.start N vs) H :=
  { r with
    vlen := by
      have := rv.length
      unfold startD L2.start
      simp [this]
    vars := fun i d e => by
      unfold startD at e
      by_cases hi : i < ds.length
      · rw [List.getElem?_append_left (by simpa using hi), List.getElem?_map] at e
        cases q : ds[i]? with
        | none => rw [q] at e; cases e
        | some d0 =>
          rw [q] at e; cases e
          obtain ⟨v, e1, e2⟩ := rv.get q
          refine ⟨v, ?_, e2⟩
          unfold L2.start
          rw [List.getElem?_append_left (by rw [List.length_map, rv.length]; exact hi), List.getElem?_map, e1]; rfl
      · rw [List.getElem?_append_right (by simpa using hi), List.getElem?_replicate] at e
        split at e <;> cases e }
theorem PostA.start {c : Wd} {Q : VK} {E : XK} {r : Rs} (p : PostA c Q E (toA r)) : PostS (fun cls d _ H => E cls d H) c { nx := fun _ H' => Q .non H', rt := Q } r := by
  cases r with
  | nx vars st => exact fun c' σ' H' l r => p .non c' st H' rfl l r.toRelS .non
  | ret d st =>
    unfold toA at p
    dsimp only at p
    intro v c' σ' H' l r rv
    cases e : frz d st with
    | ok d' st' =>
      rw [e] at p
      dsimp only at p
      by_cases hp : D.pure d' = true
      · rw [if_pos hp] at p
        obtain ⟨c2, l2, r2, rv2⟩ := frz_ex r rv e
        exact p v c2 st' H' hp (l.trans l2) r2.toRelS rv2
      · rw [if_neg hp] at p; exact p.elim
    | rz x st => rw [e] at p; exact p.elim
    | stuck => rw [e] at p; exact p.elim
  | rz x vars st =>
    unfold toA at p
    dsimp only at p
    by_cases hp : D.pures x.vs = true
    · rw [if_pos hp] at p
      exact fun c' σ' H' cls dd l r xr => p c' st H' cls dd hp l r.toRelS xr
    · rw [if_neg hp] at p; exact p.elim
  | bk vars st => exact (show False from p).elim
  | ct vars st => exact (show False from p).elim
  | stuck => exact p
theorem PostB.start {c : Wd} {Q : VK} {E : XK} {r : Rs} (p : PostB c Q E (toB r)) : PostS (fun cls d _ H => E cls d H) c { nx := fun _ H' => Q .non H', rt := Q } r := by
  cases r with
  | nx vars st => exact fun c' σ' H' l r => p .non c' H' l r.toRelS .non
  | ret d st => exact fun v c' σ' H' l r rv => p v c' H' l r.toRelS rv
  | rz x vars st => exact fun c' σ' H' cls dd l r xr => p c' H' cls dd l r.toRelS xr
  | bk vars st => exact (show False from p).elim
  | ct vars st => exact (show False from p).elim
  | stuck => exact p
/-- the context of a def's body -/
abbrev zCx (P : Program) (w : World) (K : PySem.W.Frag) (mg : Str → Option Value) (base : Heap) (N : List Str) (qual : Str) (scope : Scope) (f : Addr) (cd : Value) (A : Around) (outer : List Env) (s : Shared) (H : Hp) (E : XK) : Cx := cxOf (L2.CX P w) P w K mg base N qual scope f cd A outer s H E
abbrev zW (E : XK) (T : List Addr) (TL : List (Addr × Str)) : WZ := ⟨fun cls d _ H => E cls d H, T, TL⟩
section
variable {P : Program} {w : World} {K : PySem.W.Frag} {mg : Str → Option Value} {base : Heap} {N : List Str} {qual : Str} {scope : Scope} {f : Addr} {cd : Value} {A : Around} {outer : List Env} {s : Shared} {H : Hp} {E : XK} {T : List Addr} {TL : List (Addr × Str)} {k : Nat}
theorem zCx_tk : Takes (zCx P w K mg base N qual scope f cd A outer s H E) (zW E T TL).x := takes_of rfl rfl rfl rfl
theorem zCx_po : PassesOwn (model P w) (zCx P w K mg base N qual scope f cd A outer s H E).A (zCx P w K mg base N qual scope f cd A outer s H E).env (zCx P w K mg base N qual scope f cd A outer s H E).xe := passes_of rfl
theorem zCx_z (hN : N.Nodup) (r : Room k (A.deeper (envOfC qual scope s.heap.objs.size f cd))) : Zx (zCx P w K mg base N qual scope f cd A outer s H E) (zW E T TL) k := ⟨r, fun σ => passAt zCx_tk σ, rfl, hN⟩
/-- THE RULE: a def (d: what the heap says of it), its derivation -/
theorem okA_of {x qual : Str} {params : Arguments} {body : List Stmt} {scope : Scope} {fd : FuncData} {ps : List Str} {m : ZS} (F : FunD K x qual params body scope [] [] f fd) (hx : mg x = some (.ref f)) (S : FnScope N ps scope)
    (hb : ∀ (kV doc pm : Value) (an : Option Addr) (cdv ct : Value) (us : List Value), us.length = ps.length → bindArgs (PySem.W.fnOf x qual params body scope .none kV doc pm an cdv ct) ⟨us, []⟩ = pure (ps.zip us))
    (hd : ∀ (cd : Value) (A : Around) (outer : List Env) (s : Shared) (H : Hp) (E : XK), (∃ oc od osl, K.lookup f = some ⟨oc, od, .func fd, osl⟩ ∧ fd.code = cd) → Room k (A.deeper (envOfC qual scope s.heap.objs.size f cd)) → DSs (zCx P w K mg base N qual scope f cd A outer s H E) (zW E T TL) body m) :
    OkA P w K mg base ⟨⟨mg, K⟩, T, TL⟩ (k + 1) x (mA ps.length N.length m) := by
  refine ⟨f, fd, ps, hx, F.kp, F.bindsN hb, ?_⟩
  obtain ⟨oc, od, dV, kV, doc, pm, an, cdv, ct, osl, rfl, lk, hcd, _, _⟩ := F.ex
  refine fn_of lk hcd S (fun vs H Q E ⟨c, ds, h1, h2, h3, h4, h5, h6, h7⟩ => ?_) fun A outer s H vs Q E hr ⟨c, ds, h1, h2, h3, h4, h5, h6, h7⟩ => ?_
  · unfold mA at h7
    split at h7
    · rename_i hl; rw [h5.length]; exact hl
    · exact h7.elim
  · refine ⟨_, hd cdv A outer s H E ⟨oc, od, osl, lk, rfl⟩ hr, ?_⟩
    unfold mA at h7
    split at h7
    · exact ⟨c, startD N.length ds, [], h1, h2, start_rel h4 h5, h7.start⟩
    · exact h7.elim
theorem okB_of {x qual : Str} {params : Arguments} {body : List Stmt} {scope : Scope} {fd : FuncData} {ps : List Str} {m : ZS} (F : FunD K x qual params body scope [] [] f fd) (hx : mg x = some (.ref f)) (S : FnScope N ps scope)
    (hb : ∀ (kV doc pm : Value) (an : Option Addr) (cdv ct : Value) (us : List Value), us.length = ps.length → bindArgs (PySem.W.fnOf x qual params body scope .none kV doc pm an cdv ct) ⟨us, []⟩ = pure (ps.zip us))
    (hd : ∀ (cd : Value) (A : Around) (outer : List Env) (s : Shared) (H : Hp) (E : XK), (∃ oc od osl, K.lookup f = some ⟨oc, od, .func fd, osl⟩ ∧ fd.code = cd) → Room k (A.deeper (envOfC qual scope s.heap.objs.size f cd)) → DSs (zCx P w K mg base N qual scope f cd A outer s H E) (zW E T TL) body m) :
    OkB P w K mg base ⟨⟨mg, K⟩, T, TL⟩ (k + 1) x (mB ps.length N.length m) := by
  refine ⟨f, fd, ps, hx, F.kp, F.bindsN hb, ?_⟩
  obtain ⟨oc, od, dV, kV, doc, pm, an, cdv, ct, osl, rfl, lk, hcd, _, _⟩ := F.ex
  refine fn_of lk hcd S (fun vs H Q E ⟨c, st, ds, h1, h2, h4, h5, h7⟩ => ?_) fun A outer s H vs Q E hr ⟨c, st, ds, h1, h2, h4, h5, h7⟩ => ?_
  · unfold mB at h7
    split at h7
    · rename_i hl; rw [h5.length]; exact hl
    · exact h7.elim
  · refine ⟨_, hd cdv A outer s H E ⟨oc, od, osl, lk, rfl⟩ hr, ?_⟩
    unfold mB at h7
    split at h7
    · exact ⟨c, startD N.length ds, st, h1, h2, start_rel h4 h5, h7.start⟩
    · exact h7.elim
end
end Zl

set_option Elab.async false
set_option linter.all false
set_option maxRecDepth 100000
set_option maxHeartbeats 2000000
/-! Layer Z, part 9: built-ins. -/
namespace Zl
open PySem PySem.Spec PyProof.Rows L2

/-! ### what is never reached -/
def zStuck : ZE := fun _ _ => .stuck
def sStuck : ZS := fun _ _ => .stuck
section
variable {X : Cx} {W : WZ}
theorem de_never {e : Expr} : DE X W e zStuck := ⟨fun pins s σ H Q I ⟨c, vars, st, hw, hm, rel, q⟩ => q.elim⟩
theorem dt_never {e : Expr} : DT X W e zStuck := ⟨fun pins s σ H Q I ⟨c, vars, st, hw, hm, rel, q⟩ => q.elim⟩
theorem ds_never {s : Stmt} : DS X W s sStuck := ⟨fun pins s σ H D I ⟨c, vars, st, hw, hm, rel, q⟩ => q.elim⟩
end

/-! ### a op b op c -/
def zChain (o1 o2 : Op2) (f g h : ZE) : ZE := fun vars st => (f vars st).bind fun x st => (g vars st).bind fun y st => (qOp o1 x y st).tst fun b st => if b = true then (h vars st).bind fun z st => qOp o2 y z st else .ok (.bl false) st
section
variable {X : Cx} {W : WZ} {a b c e : Expr} {es : List Expr} {fa fb fc f : ZE} {l : ZL} {pos p : Pos} {op op' : CmpOp} {o1 o2 : Op2}
theorem PostE.qE {W W' : WX} {c : Wd} {vars : Vars} {σ : L2.St} {Q : VK} {op : Op2} {x y : D} {st : Sto} (p : PostE W c vars σ Q (qOp op x y st)) : PostE W' c vars σ Q (qOp op x y st) := PostE.quiet p
theorem ent_chain {W : WX} {w : World} {md : Md} {σ : L2.St} {H : Hp} {Q : VK} (h : zE w md W (zChain o1 o2 fa fb fc) σ H Q) : tChain (zOp w md.b (qOp o1)) (zOp w md.b (qOp o2)) (zE w md W fa) (zE w md W fb) (zE w md W fc) σ H Q := by
  obtain ⟨c, vars, st, hw, hm, rel, q⟩ := h
  refine ⟨c, vars, st, hw, hm, rel, (PostE.bind q).imp fun x H1 ⟨c1, dx, st1, l1, r1, rx, p1⟩ => ?_⟩
  refine ⟨c1, vars, st1, l1.w.trans hw, l1.md.trans hm, r1, (PostE.bind p1).imp fun y H2 ⟨c2, dy, st2, l2, r2, ry, p2⟩ => ?_⟩
  have w2 := l2.w.trans (l1.w.trans hw)
  have m2 := l2.md.trans (l1.md.trans hm)
  refine ⟨c2, vars, st2, σ, dx, dy, w2, mgo m2, r2, rx.mono l2, ry, ?_⟩
  have p3 := PostE.tst p2
  unfold qOp at p2 p3 ⊢
  cases e1 : (o1 dx dy st2).quiet with
  | stuck => rw [e1] at p3; exact p3.elim
  | rz x st => cases e0 : o1 dx dy st2 <;> rw [e0] at e1 <;> cases e1
  | ok d st3 =>
    rw [e1] at p3
    cases d with
    | bl k =>
      intro v c3 H3 l3 r3 rv
      cases rv
      refine ⟨k, rfl, ?_⟩
      obtain ⟨c4, st4, l4, r4, p4⟩ := p3 c3 H3 l3 r3
      cases k with
      | false =>
        rw [if_neg Bool.false_ne_true] at p4 ⊢
        exact p4 _ c4 H3 (Wd.le.refl _) r4 (.bl _)
      | true =>
        rw [if_pos rfl] at p4 ⊢
        refine ⟨c4, vars, st4, l4.w.trans w2, l4.md.trans m2, r4, (PostE.bind p4).imp fun z H4 ⟨c5, dz, st5, l5, r5, rz, p5⟩ => ?_⟩
        exact ⟨c5, vars, st5, σ, dy, dz, l5.w.trans (l4.w.trans w2), l5.b.trans (l4.b.trans (mgo m2)), r5, (ry.mono l4).mono l5, rz, PostE.quiet p5⟩
    | _ => exact p3.elim
theorem de_chain (h1 : OpZ X (compareOp op) (qOp o1)) (h2 : OpZ X (compareOp op') (qOp o2)) (ha : DE X W a fa) (hb : DE X W b fb) (hc : DE X W c fc) (hm : lastMarks [op, op'] [b, c] = false := by with_unfolding_all rfl) : DE X W (.Compare a [op, op'] [b, c] pos) (zChain o1 o2 fa fb fc) :=
  (pe_chain h1 h2 ha hb hc hm).imp fun σ H Q h => ent_chain h
theorem dt_chain (h1 : OpZ X (compareOp op) (qOp o1)) (h2 : OpZ X (compareOp op') (qOp o2)) (ha : DE X W a fa) (hb : DE X W b fb) (hc : DE X W c fc) (hm : lastMarks [op, op'] [b, c] = false := by with_unfolding_all rfl) : DT X W (.Compare a [op, op'] [b, c] pos) (zChain o1 o2 fa fb fc) :=
  (pt_chain h1 h2 ha hb hc hm).imp fun σ H Q ⟨c, vars, st, hw, hmg, rel, q⟩ =>
  ent_chain ⟨c, vars, st, hw, hmg, rel, (PostT.ofE q).imp fun v H1 ⟨_, b, _, _, _, e, p⟩ => ⟨b, e, p⟩⟩

/-! ### calls of built-in functions, types -/
theorem ent_app {W : WX} {w : World} {md : Md} {op : OpN} {σ : L2.St} {H : Hp} {Q : VK} (h : zE w md W (zApp (qOpN op) l) σ H Q) : tCB (zOpN w md.b (qOpN op)) (zA w md W l) σ H Q :=
  let ⟨c, vars, st, hw, hm, rel, q⟩ := h
  ⟨c, vars, st, hw, hm, rel, (PostL.bind q).imp fun v H1 ⟨c1, d, st1, l1, r1, rv, p1⟩ => ⟨c1, vars, st1, σ, d, l1.w.trans hw, l1.b.trans (mgo hm), r1, rv, PostE.quiet p1⟩⟩
theorem de_blt {x : Str} {id : String} {o : OpN} (ho : CallZ X (.builtin id) (qOpN o)) (hm : X.mg x = none) (hv : bootBuiltins x = some (.builtin id)) (ha : DA X W (e :: es) l) (hg : Gl X x := by rfl) (hn : x ≠ "__name__" := by decide) (hdb : (x == ("__debug__" : Str)) = false := by decide)
    (he : starEach (e :: es) X.env = (false, eval e X.env) :: starEach es X.env := by rfl) (hpl : (backTo pos (starEach es X.env)).any (·.1) = false := by rfl) : DE X W (.Call (.Name x p) (e :: es) [] pos) (zApp (qOpN o) l) :=
  (pe_callB ho hg hm hv ha hn hdb he hpl).imp fun _ _ _ => ent_app
theorem de_bty {x : Str} {T : String} {o : OpN} (ho : CallZ X (.type T) (qOpN o)) (hm : X.mg x = none) (hv : bootBuiltins x = some (.type T)) (ha : DA X W (e :: es) l) (hg : Gl X x := by rfl) (hn : x ≠ "__name__" := by decide) (hdb : (x == ("__debug__" : Str)) = false := by decide)
    (he : starEach (e :: es) X.env = (false, eval e X.env) :: starEach es X.env := by rfl) (hpl : (backTo pos (starEach es X.env)).any (·.1) = false := by rfl) : DE X W (.Call (.Name x p) (e :: es) [] pos) (zApp (qOpN o) l) :=
  (pe_callTy ho hg hm hv ha hn hdb he hpl).imp fun _ _ _ => ent_app
end

/-- len -/
def lenD : D → Option Nat
  | .lst ds => if ds.length ≤ sizeLine then some ds.length else none
  | .tup ds => if ds.length ≤ sizeLine then some ds.length else none
  | .scr ds => if ds.length ≤ sizeLine then some ds.length else none
  | .str z => if z.length ≤ sizeLine then some z.length else none
  | .dct ks _ => if ks.length ≤ sizeLine then some ks.length else none
  | _ => none
def oLen : OpN := fun ds st => match ds with
  | [x] => (match lenD (der st x) with
    | some n => .ok (.int n) st
    | none => .stuck)
  | _ => .stuck
theorem meets_len_raw {prog : Program} {w : World} (d : Addr) (hd : (d == sysModules) = false) :
    MeetsIn prog w (Builtin.«dict.__len__» ⟨[.ref d], []⟩) (fun _ R s => ∃ es ep, s.heap.DictRaw d es ep ∧ R (.ok (.ret (.int es.size s.toks))) { s with toks := s.toks + 1 }) :=
  .of_wp fun A R s ⟨es, ep, hm, h⟩ => by
    obtain ⟨o, ho, hc, hdat⟩ := hm
    show wpAny _ _ (dictSize d >>= _) _ _ s
    unfold dictSize
    refine wpAny_bind (wpAny_bind (wpAny_dictEntries ho hdat (wpAny_pure ?_)))
    show wpAny _ _ (Builtin.Dict.pendingCount d >>= _) _ _ s
    refine wpAny_bind (wpAny_pendingCount_other hd ?_)
    refine wpAny_ret_mkInt ?_
    rw [Nat.add_zero]; exact h
theorem call_len_rawD {prog : Program} {w : World} {A : Around} {E : Value → Shared → Prop} {s : Shared} {d : Addr} {es : Array DictEntry} {ep : Nat} {Q : Value → Shared → Prop} (hd : (d == sysModules) = false) (hm : s.heap.DictRaw d es ep) (hfit : (es.size : Int) < 2 ^ 63)
    (h : Q (.int es.size (s.toks + 1)) { s with toks := s.toks + 1 + 1 }) : wpAny (model prog w) A (call (.builtin "len") [.ref d]) Q E s := by
  refine Calls.call_function_entry kind_len plain_len entry_len (args_len1 _) ?_
  unfold Builtin.«len»
  refine wpAny_bind (m := oneArg "len" _) (wpAny_pure ?_)
  refine wpAny_bind (m := callSpecial? (.ref d) (Str.ofString "__len__")) (wpAny_callSpecial?_slot (name := Str.ofString "__len__") hm.typeIs F.slot_dict_len
    (call_meetsIn F.slot_dict_len hm.typeIs F.entry_dict_len (F.args_dict_len_1 _) (meets_len_raw d hd) ⟨es, ep, hm, ?_⟩))
  show wpAny _ _ _ _ _ { s with toks := s.toks + 1 }
  refine wpAny_bind (wpAny_holding (wpAny_pure ?_))
  refine wpAny_bind (wpAny_letGo ?_)
  show wpAny _ _ (if ((es.size : Nat) : Int) < 0 then _ else _) _ _ _
  rw [if_neg (by omega)]
  show wpAny _ _ (if ((es.size : Nat) : Int) ≥ 2 ^ 63 then _ else _) _ _ _
  rw [if_neg (by omega)]
  exact wpAny_bind (wpAny_mkInt (wpAny_pure ⟨_, rfl, h⟩))
/-- a dict that is read, known or live -/
theorem der_dct {c : Wd} {st : Sto} {H : Hp} {x : V} {d : D} {ks vs : List D} (r : RelS c st H) (rv : RV c x d) (e : der st d = .dct ks vs) : ∃ a ep es nk, x = .ref a ∧ H a = some (.ext (rawD a ep es)) ∧ RVs c (es.map (·.2.1)) ks ∧ RVs c (es.map (·.2.2)) vs ∧ D.keys ks = some nk ∧ es.map (·.1) = nk.map (NestedKey.hash c.w) ∧ DKeys nk := by
  rcases der_rv r rv with rv | ⟨n, a, _, _, rfl, _, _, _, l⟩
  · rw [e] at rv
    cases rv with
    | dct h1 h2 h3 h4 h5 h6 => exact ⟨_, _, _, _, rfl, r.ext _ _ h1, h2, h3, h4, h5, h6⟩
  · rw [e] at l
    obtain ⟨ep, es, nk, l1, l2⟩ := l
    exact ⟨a, ep, es, nk, rfl, l1, l2⟩
section
variable {X : Cx}
theorem cz_len : CallZ X (.builtin "len") oLen := fun pins s σ H xs us Q I r ⟨c, vars, st, σ', ds, hw, hm, rel, rv, q⟩ => by
  unfold oLen at q
  split at q
  · rename_i d
    obtain ⟨x, rfl, rx⟩ := rv.one
    have hK : c.K = X.K := congrArg Bs.K hm
    cases e : lenD (der st d) with
    | none => rw [e] at q; exact q.elim
    | some n =>
      rw [e] at q
      have fin := q (.int n) c H (Wd.le.refl _) rel (.int _)
      have sz : ∀ {α : Type} {l : List α}, (if l.length ≤ sizeLine then some l.length else none) = some n → l.length ≤ sizeLine ∧ n = l.length := fun {α l} h => by
        split at h
        · rename_i z; exact ⟨z, (Option.some.inj h).symm⟩
        · cases h
      cases ed : der st d with
      | lst ys =>
        rw [ed] at e
        obtain ⟨a, vs, rfl, h1, h2⟩ := der_lst rel.toRelS rx ed
        obtain ⟨hz, rfl⟩ := sz e
        exact call_len pins s σ H _ us Q I r ⟨_, _, rfl, .inl ⟨vs, SqL.of h1, rfl⟩, by rw [h2.length]; exact fin⟩
      | tup ys =>
        rw [ed] at e
        obtain ⟨a, vs, rfl, h1, h2⟩ := der_tup rel.toRelS rx ed
        obtain ⟨hz, rfl⟩ := sz e
        exact call_len pins s σ H _ us Q I r ⟨_, _, rfl, .inr ⟨vs, SqT.of h1, rfl⟩, by rw [h2.length]; exact fin⟩
      | scr ys =>
        rw [ed] at e
        obtain ⟨a, vs, rfl, h1, h2⟩ := der_scr rel.toRelS rx ed
        obtain ⟨hz, rfl⟩ := sz e
        exact call_len pins s σ H _ us Q I r ⟨_, _, rfl, .inl ⟨vs, by rw [← hK]; exact h1, rfl⟩, by rw [h2.length]; exact fin⟩
      | str z =>
        rw [ed] at e
        cases der_str rel.toRelS rx ed
        have e' : (if z.length ≤ sizeLine then some z.length else none) = some n := e
        split at e'
        · rename_i hz
          cases e'
          exact call_len pins s σ H _ us Q I r ⟨_, _, rfl, ⟨hz, rfl⟩, fin⟩
        · cases e'
      | dct ks vs =>
        rw [ed] at e
        obtain ⟨a, ep, es, nk, rfl, h1, h2, h3, _⟩ := der_dct rel.toRelS rx ed
        obtain ⟨hz, rfl⟩ := sz e
        obtain ⟨u, rfl, ru⟩ := vals1 r
        cases (show u = Value.ref a from ru)
        obtain ⟨hs, hz', dz, hr, hsz, _⟩ := raw_at I.hok h1
        have hl : dz.size = ks.length := by
          have := h2.length
          simp at this
          omega
        have sl : sizeLine = 16777216 := sizeLine_eq
        refine call_len_rawD hs hr (by omega) ?_
        rw [hl]
        exact ⟨.int (ks.length : Nat), H, I.tok _, ⟨_, rfl⟩, fin⟩
      | _ => rw [ed] at e; cases e
  · exact q.elim
theorem de_len {W : WZ} {e : Expr} {l : ZL} {p pos : Pos} (hm : X.mg "len" = none) (ha : DA X W [e] l) (hg : Gl X "len" := by rfl) (he : starEach [e] X.env = (false, eval e X.env) :: starEach [] X.env := by rfl) : DE X W (.Call (.Name "len" p) [e] [] pos) (zApp (qOpN oLen) l) :=
  de_blt cz_len.q hm boot_len ha hg (by decide) (by decide) he rfl
end
end Zl

set_option Elab.async false
set_option linter.all false
set_option maxRecDepth 100000
set_option maxHeartbeats 2000000
/-! Layer Z, part 10: isinstance, tuple, list, int, max, sum, tuples repeated. -/
namespace Zl
open PySem PySem.Spec PyProof.Rows L2

/-! ### isinstance -/
def tyD : D → Option String
  | .non => some "NoneType"
  | .bl _ => some "bool"
  | .int _ => some "int"
  | .str _ => some "str"
  | .tup _ => some "tuple"
  | .lst _ => some "list"
  | _ => none
theorem tyx_of {K : PySem.W.Frag} {c : Wd} {st : Sto} {H : Hp} {x : V} {d : D} {t : String} (r : RelS c st H) (rv : RV c x d) (e : tyD (der st d) = some t) : TyX K H x (.type t) := by
  cases ed : der st d with
  | lst ds =>
    rw [ed] at e; cases e
    obtain ⟨a, vs, rfl, h1, _⟩ := der_lst r rv ed
    exact .base (.lst h1)
  | tup ds =>
    rw [ed] at e; cases e
    obtain ⟨a, vs, rfl, h1, _⟩ := der_tup r rv ed
    exact .base (.tup h1)
  | str z =>
    rw [ed] at e; cases e
    cases der_str r rv ed
    exact .base (.str z)
  | non =>
    rw [ed] at e; cases e
    rcases der_rv r rv with rv | ⟨n, a, _, _, rfl, _, _, _, l⟩
    · rw [ed] at rv; cases rv; exact .base .non
    · rw [ed] at l; exact l.elim
  | bl b =>
    rw [ed] at e; cases e
    rcases der_rv r rv with rv | ⟨n, a, _, _, rfl, _, _, _, l⟩
    · rw [ed] at rv; cases rv; exact .base (.bl b)
    · rw [ed] at l; exact l.elim
  | int i =>
    rw [ed] at e; cases e
    rcases der_rv r rv with rv | ⟨n, a, _, _, rfl, _, _, _, l⟩
    · rw [ed] at rv; cases rv; exact .base (.int i)
    · rw [ed] at l; exact l.elim
  | _ => rw [ed] at e; cases e
def pInt : D → Option Bool
  | .int _ => some true | .bl _ => some true | .non => some false | .str _ => some false | .tup _ => some false | .lst _ => some false | _ => none
def pBool : D → Option Bool
  | .bl _ => some true | .int _ => some false | .non => some false | .str _ => some false | .tup _ => some false | .lst _ => some false | _ => none
def pTup : D → Option Bool
  | .tup _ => some true | .int _ => some false | .bl _ => some false | .non => some false | .str _ => some false | .lst _ => some false | _ => none
def pLst : D → Option Bool
  | .lst _ => some true | .int _ => some false | .bl _ => some false | .non => some false | .str _ => some false | .tup _ => some false | _ => none
def pStr : D → Option Bool
  | .str _ => some true | .int _ => some false | .bl _ => some false | .non => some false | .tup _ => some false | .lst _ => some false | _ => none
def pTL : D → Option Bool
  | .tup _ => some true | .lst _ => some true | .int _ => some false | .bl _ => some false | .non => some false | .str _ => some false | _ => none
def KitP (T : String) (p : D → Option Bool) : Prop := ∀ d b, p d = some b → ∃ t, tyD d = some t ∧ kitB t T = some b
theorem kit_int : KitP "int" pInt := fun d b h => by
  cases d <;> first | (cases h; exact ⟨_, rfl, by decide +kernel⟩) | cases h
theorem kit_bool : KitP "bool" pBool := fun d b h => by
  cases d <;> first | (cases h; exact ⟨_, rfl, by decide +kernel⟩) | cases h
theorem kit_tup : KitP "tuple" pTup := fun d b h => by
  cases d <;> first | (cases h; exact ⟨_, rfl, by decide +kernel⟩) | cases h
theorem kit_lst : KitP "list" pLst := fun d b h => by
  cases d <;> first | (cases h; exact ⟨_, rfl, by decide +kernel⟩) | cases h
theorem kit_str : KitP "str" pStr := fun d b h => by
  cases d <;> first | (cases h; exact ⟨_, rfl, by decide +kernel⟩) | cases h
def oIsi (p : D → Option Bool) : D → Sto → R := fun x st => match p (der st x) with
  | some b => .ok (.bl b) st
  | none => .stuck
section
variable {X : Cx} {W : WZ} {e : Expr} {f : ZE} {l : ZL} {p p2 pos tpos : Pos}
theorem de_isi {T : String} {x : Str} {pp : D → Option Bool} (hk : KitP T pp) (hmi : X.mg "isinstance" = none) (hmx : X.mg x = none) (hv : bootBuiltins x = some (.type T)) (h : DE X W e f) (hg : Gl X "isinstance" := by rfl) (hgx : Gl X x := by rfl) (hn : x ≠ "__name__" := by decide) (hdb : (x == ("__debug__" : Str)) = false := by decide)
    (he : starEach [e, .Name x p2] X.env = (false, eval e X.env) :: starEach [.Name x p2] X.env := by rfl) (hpl : (backTo pos (starEach [.Name x p2] X.env)).any (·.1) = false := by rfl) (he2 : starEach [.Name x p2] X.env = (false, eval (.Name x p2) X.env) :: starEach [] X.env := by rfl) :
    DE X W (.Call (.Name "isinstance" p) [e, .Name x p2] [] pos) (zUn (oIsi pp) f) :=
  (pe_callB call_isi hg hmi PyProof.Rows.boot_isinstance (pa_cons h (pa_cons (pe_bltn hgx hmx hv (show RelV (.ty T) (.type T) from rfl) hn hdb) pa_nil he2) he) (by decide) (by decide) he hpl).imp fun σ H Q ⟨c, vars, st, hw, hm, rel, q⟩ =>
    ⟨c, vars, st, hw, hm, rel, (PostE.bind q).imp fun v H1 ⟨c1, d, st1, l1, r1, rv, p1⟩ => by
      show rIsi X.K [v, .ty T] H1 Q
      unfold oIsi at p1
      cases e : pp (der st1 d) with
      | none => rw [e] at p1; exact p1.elim
      | some b =>
        rw [e] at p1
        obtain ⟨t, h1, h2⟩ := hk _ _ e
        exact ⟨v, .ty T, .type t, .type T, b, rfl, .ty T, tyx_of r1.toRelS rv h1, kit_ty h2, p1 _ c1 H1 (Wd.le.refl _) r1 (.bl b)⟩⟩
/-- isinstance(x, (tuple, list)) -/
theorem de_isiTL {pa pb : Pos} {k : Nat} (hmi : X.mg "isinstance" = none) (hm1 : X.mg "tuple" = none) (hm2 : X.mg "list" = none) (h : DE X W e f) (hg : Gl X "isinstance" := by rfl) (hg1 : Gl X "tuple" := by rfl) (hg2 : Gl X "list" := by rfl)
    (he : starEach [e, .Tuple [.Name "tuple" pa, .Name "list" pb] k tpos] X.env = (false, eval e X.env) :: starEach [.Tuple [.Name "tuple" pa, .Name "list" pb] k tpos] X.env := by rfl) (hpl : (backTo pos (starEach [.Tuple [.Name "tuple" pa, .Name "list" pb] k tpos] X.env)).any (·.1) = false := by rfl)
    (he2 : starEach [.Tuple [.Name "tuple" pa, .Name "list" pb] k tpos] X.env = (false, eval (.Tuple [.Name "tuple" pa, .Name "list" pb] k tpos) X.env) :: starEach [] X.env := by rfl)
    (he3 : starEach [.Name "tuple" pa, .Name "list" pb] X.env = (false, eval (.Name "tuple" pa) X.env) :: starEach [.Name "list" pb] X.env := by rfl) (he4 : starEach [.Name "list" pb] X.env = (false, eval (.Name "list" pb) X.env) :: starEach [] X.env := by rfl) :
    DE X W (.Call (.Name "isinstance" p) [e, .Tuple [.Name "tuple" pa, .Name "list" pb] k tpos] [] pos) (zUn (oIsi pTL) f) :=
  (pe_callB call_isiT hg hmi PyProof.Rows.boot_isinstance (pa_cons h (pa_cons (pe_tup (pa_cons (pe_bltn hg1 hm1 boot_tuple (show RelV (.ty "tuple") (.type "tuple") from rfl)) (pa_cons (pe_bltn hg2 hm2 boot_list (show RelV (.ty "list") (.type "list") from rfl)) pa_nil he4) he3)) pa_nil he2) he) (by decide) (by decide) he hpl).imp fun σ H Q ⟨c, vars, st, hw, hm, rel, q⟩ =>
    ⟨c, vars, st, hw, hm, rel, (PostE.bind q).imp fun v H1 ⟨c1, d, st1, l1, r1, rv, p1⟩ => by
      refine ⟨by show 2 ≤ sizeLine; rw [sizeLine_eq]; omega, fun tp htp => ?_⟩
      show rIsiT X.K [v, .ref tp] (upd H1 tp (.tup [.ty "tuple", .ty "list"])) Q
      unfold oIsi at p1
      have R2 := r1.newG (o := .tup [.ty "tuple", .ty "list"]) htp
      have hG := (Rel.fresh r1.toRelS htp).1
      have ty : ∀ t, tyD (der st1 d) = some t → TyX X.K (upd H1 tp (.tup [.ty "tuple", .ty "list"])) v (.type t) := fun t ht => tyx_of R2.toRelS (rv.mono (Wd.le_newG hG)) ht
      cases e : pTL (der st1 d) with
      | none => rw [e] at p1; exact p1.elim
      | some b =>
        rw [e] at p1
        have fin := p1 (.bl b) _ _ (Wd.le_newG hG) R2 (.bl b)
        have key : ∀ t, tyD (der st1 d) = some t → (∃ b1 b2, kitB t "tuple" = some b1 ∧ kitB t "list" = some b2 ∧ b = (b1 || b2)) → rIsiT X.K [v, .ref tp] (upd H1 tp (.tup [.ty "tuple", .ty "list"])) Q := fun t ht ⟨b1, b2, k1, k2, hb⟩ =>
          ⟨v, tp, [.ty "tuple", .ty "list"], .type t, [.type "tuple", .type "list"], b, rfl, upd_same, .cons (.ty _) (.cons (.ty _) .nil), ty t ht, by
            rw [hb]
            exact kitAny_cons (kit_ty k1) (fun h => kitAny_cons (kit_ty k2) (fun h2 => by rw [h, h2]; exact kitAny_nil) (fun h2 => by rw [h2, Bool.or_true])) (fun h => by rw [h, Bool.true_or]), fin⟩
        cases ed : der st1 d with
        | tup ds => rw [ed] at e; cases e; exact key "tuple" (by rw [ed]; rfl) ⟨true, false, by decide +kernel, by decide +kernel, rfl⟩
        | lst ds => rw [ed] at e; cases e; exact key "list" (by rw [ed]; rfl) ⟨false, true, by decide +kernel, by decide +kernel, rfl⟩
        | int ds => rw [ed] at e; cases e; exact key "int" (by rw [ed]; rfl) ⟨false, false, by decide +kernel, by decide +kernel, rfl⟩
        | bl ds => rw [ed] at e; cases e; exact key "bool" (by rw [ed]; rfl) ⟨false, false, by decide +kernel, by decide +kernel, rfl⟩
        | non => rw [ed] at e; cases e; exact key "NoneType" (by rw [ed]; rfl) ⟨false, false, by decide +kernel, by decide +kernel, rfl⟩
        | str ds => rw [ed] at e; cases e; exact key "str" (by rw [ed]; rfl) ⟨false, false, by decide +kernel, by decide +kernel, rfl⟩
        | _ => rw [ed] at e; cases e⟩

/-! ### tuple(..), list(..), int(..) -/
def oTuple : OpN := fun ds st => match ds with
  | [x] => (match der st x with
    | .lst ds => .ok (.tup ds) st
    | .tup ds => .ok (.tup ds) st
    | _ => .stuck)
  | _ => .stuck
theorem cz_tuple : CallZ X (.type "tuple") oTuple := fun pins s σ H xs us Q I r ⟨c, vars, st, σ', ds, hw, hm, rel, rv, q⟩ => by
  unfold oTuple at q
  split at q
  · rename_i d
    obtain ⟨x, rfl, rx⟩ := rv.one
    split at q
    · rename_i ys ed
      obtain ⟨a, vs, rfl, h1, h2⟩ := der_lst rel.toRelS rx ed
      exact call_tuple_of pins s σ H _ us Q I r ⟨a, vs, rfl, .inl ⟨SqL.of h1, fun l hl => new_tup rel h2 hl q⟩⟩
    · rename_i ys ed
      obtain ⟨a, vs, rfl, h1, h2⟩ := der_tup rel.toRelS rx ed
      refine call_tuple_of pins s σ H _ us Q I r ⟨a, vs, rfl, .inr ⟨SqT.of h1, ?_⟩⟩
      rcases der_rv rel.toRelS rx with rv' | ⟨n, a, _, _, _, _, _, _, l⟩
      · rw [ed] at rv'; exact q _ c H (Wd.le.refl _) rel rv'
      · rw [ed] at l; exact l.elim
    · exact q.elim
  · exact q.elim
def oList (m : Bool) : OpN := fun ds st => match ds with
  | [x] => (match der st x with
    | .lst ds => newD m (.lst ds) st
    | .tup ds => newD m (.lst ds) st
    | _ => .stuck)
  | _ => .stuck
theorem cz_list (m : Bool) : CallZ X (.type "list") (oList m) := fun pins s σ H xs us Q I r ⟨c, vars, st, σ', ds, hw, hm, rel, rv, q⟩ => by
  unfold oList at q
  split at q
  · rename_i d
    obtain ⟨x, rfl, rx⟩ := rv.one
    split at q
    · rename_i ys ed
      obtain ⟨a, vs, rfl, h1, h2⟩ := der_lst rel.toRelS rx ed
      exact call_list_of pins s σ H _ us Q I r ⟨a, vs, rfl, .inl (SqL.of h1), fun l hl => new_lst rel h2 hl q⟩
    · rename_i ys ed
      obtain ⟨a, vs, rfl, h1, h2⟩ := der_tup rel.toRelS rx ed
      exact call_list_of pins s σ H _ us Q I r ⟨a, vs, rfl, .inr (SqT.of h1), fun l hl => new_lst rel h2 hl q⟩
    · exact q.elim
  · exact q.elim
def oInt : OpN := fun ds st => match ds with
  | [.int i] => .ok (.int i) st
  | [.bl k] => .ok (.int (if k = true then 1 else 0)) st
  | _ => .stuck
theorem cz_int : CallZ X (.type "int") oInt := fun pins s σ H xs us Q I r ⟨c, vars, st, σ', ds, hw, hm, rel, rv, q⟩ => by
  unfold oInt at q
  split at q
  · obtain ⟨x, rfl, rx⟩ := rv.one
    cases rx
    exact call_int1 pins s σ H _ us Q I r (.inl ⟨_, rfl, q _ c H (Wd.le.refl _) rel (.int _)⟩)
  · obtain ⟨x, rfl, rx⟩ := rv.one
    cases rx
    exact call_int1 pins s σ H _ us Q I r (.inr ⟨_, rfl, q _ c H (Wd.le.refl _) rel (.int _)⟩)
  · exact q.elim
theorem de_tuple (hm : X.mg "tuple" = none) (ha : DA X W [e] l) (hg : Gl X "tuple" := by rfl) (he : starEach [e] X.env = (false, eval e X.env) :: starEach [] X.env := by rfl) : DE X W (.Call (.Name "tuple" p) [e] [] pos) (zApp (qOpN oTuple) l) := de_bty cz_tuple.q hm boot_tuple ha hg (by decide) (by decide) he rfl
theorem de_list (m : Bool) (hm : X.mg "list" = none) (ha : DA X W [e] l) (hg : Gl X "list" := by rfl) (he : starEach [e] X.env = (false, eval e X.env) :: starEach [] X.env := by rfl) : DE X W (.Call (.Name "list" p) [e] [] pos) (zApp (qOpN (oList m)) l) := de_bty (cz_list m).q hm boot_list ha hg (by decide) (by decide) he rfl
theorem de_toint (hm : X.mg "int" = none) (ha : DA X W [e] l) (hg : Gl X "int" := by rfl) (he : starEach [e] X.env = (false, eval e X.env) :: starEach [] X.env := by rfl) : DE X W (.Call (.Name "int" p) [e] [] pos) (zApp (qOpN oInt) l) := de_bty cz_int.q hm boot_int ha hg (by decide) (by decide) he rfl
/-- tuple(range(n)) -/
def oTupRg : D → Sto → R := fun x st => match x with
  | .int j => if decide (-(2 ^ 62) ≤ j) && decide (j ≤ 2 ^ 24) then .ok (.tup (rng 0 j.toNat)) st else .stuck
  | _ => .stuck
theorem rgV_rng (a b : Int) : rgV a b = (List.range (b - a).toNat).map fun i => V.int (a + (i : Nat)) := rfl
theorem rvs_rng {c : Wd} : ∀ {n : Nat} {lo : Int}, RVs c ((List.range n).map fun i => V.int (lo + (i : Nat))) (rng lo n)
  | 0, lo => .nil
  | n + 1, lo => by
    rw [List.range_succ_eq_map, List.map_cons, List.map_map]
    have e : ((fun i : Nat => V.int (lo + (i : Nat))) ∘ Nat.succ) = fun i : Nat => V.int ((lo + 1) + (i : Nat)) := by
      funext i
      show V.int (lo + ((i + 1 : Nat) : Int)) = _
      congr 1
      omega
    rw [e]
    have z : (lo + ((0 : Nat) : Int)) = lo := by simp
    rw [z]
    exact .cons (.int lo) rvs_rng
theorem de_tupRg {p3 pos3 : Pos} (hc : X.calm = true) (hm1 : X.mg "tuple" = none) (hm2 : X.mg "range" = none) (h : DE X W e f) (hg : Gl X "tuple" := by rfl) (hg2 : Gl X "range" := by rfl) (he : starEach [.Call (.Name "range" p3) [e] [] pos3] X.env = (false, eval (.Call (.Name "range" p3) [e] [] pos3) X.env) :: starEach [] X.env := by rfl)
    (he2 : starEach [e] X.env = (false, eval e X.env) :: starEach [] X.env := by rfl) :
    DE X W (.Call (.Name "tuple" p) [.Call (.Name "range" p3) [e] [] pos3] [] pos) (zUn oTupRg f) :=
  (pe_tupRg hc hg hm1 (prg_1 hg2 hm2 h he2) he).imp fun σ H Q ⟨c, vars, st, hw, hm, rel, q⟩ =>
    ⟨c, vars, st, hw, hm, rel, (PostE.bind q).imp fun v H1 ⟨c1, d, st1, l1, r1, rv, p1⟩ => by
      unfold oTupRg at p1
      split at p1
      · rename_i j
        cases rv
        split at p1
        · rename_i hz
          simp only [Bool.and_eq_true, decide_eq_true_eq] at hz
          refine ⟨j, rfl, ⟨by omega, by omega, by omega, by omega, by omega⟩, fun q hq => ?_⟩
          refine new_tup r1 ?_ hq p1
          rw [rgV_rng, Int.sub_zero]
          exact rvs_rng
        · exact p1.elim
      · exact p1.elim⟩

/-! ### max, min, sum -/
def intsD : List D → Option (List Int)
  | [] => some []
  | .int i :: ds => (intsD ds).map (i :: ·)
  | _ => none
theorem intsD_ok {c : Wd} : ∀ {vs : List V} {ds : List D} {ns : List Int}, RVs c vs ds → intsD ds = some ns → vs = ns.map V.int
  | _, _, _, .nil, e => by cases e; rfl
  | _, _, _, .cons (d := d) a b, e => by
    cases d with
    | int i =>
      cases a
      simp only [intsD, Option.map_eq_some_iff] at e
      obtain ⟨l, e1, rfl⟩ := e
      rw [intsD_ok b e1]; rfl
    | _ => cases e
def maxI : List Int → Int
  | [] => 0
  | [i] => i
  | i :: l => if maxI l ≤ i then i else maxI l
theorem maxI_mem : ∀ {l : List Int}, l ≠ [] → maxI l ∈ l ∧ ∀ y ∈ l, y ≤ maxI l
  | [], h => absurd rfl h
  | [i], _ => ⟨by simp [maxI], fun y hy => by simp at hy; subst hy; exact Int.le_refl _⟩
  | i :: j :: l, _ => by
    obtain ⟨h1, h2⟩ := maxI_mem (l := j :: l) (by simp)
    unfold maxI
    by_cases h : maxI (j :: l) ≤ i
    · rw [if_pos h]
      exact ⟨List.mem_cons_self, fun y hy => by
        rcases List.mem_cons.mp hy with rfl | hy
        · exact Int.le_refl _
        · exact Int.le_trans (h2 y hy) h⟩
    · rw [if_neg h]
      exact ⟨List.mem_cons_of_mem _ h1, fun y hy => by
        rcases List.mem_cons.mp hy with rfl | hy
        · omega
        · exact h2 y hy⟩
def oMax : OpN := fun ds st => match ds with
  | [x] => (match der st x with
    | .lst ds => (match intsD ds with
      | some (n :: ns) => .ok (.int (maxI (n :: ns))) st
      | _ => .stuck)
    | _ => .stuck)
  | _ => .stuck
theorem cz_max (hc : X.calm = true) : CallZ X (.builtin "max") oMax := fun pins s σ H xs us Q I r ⟨c, vars, st, σ', ds, hw, hm, rel, rv, q⟩ => by
  unfold oMax at q
  split at q
  · rename_i d
    obtain ⟨x, rfl, rx⟩ := rv.one
    split at q
    · rename_i ys ed
      split at q
      · rename_i n ns ei
        obtain ⟨a, vs, rfl, h1, h2⟩ := der_lst rel.toRelS rx ed
        have ev := intsD_ok h2 ei
        subst ev
        refine cr_max hc pins s σ H _ us Q I r ⟨a, n :: ns, rfl, SqL.of h1, Nat.succ_pos _, fun m hm1 hm2 => ?_⟩
        obtain ⟨k1, k2⟩ := maxI_mem (l := n :: ns) (by simp)
        have e : m = maxI (n :: ns) := Int.le_antisymm (k2 m hm1) (hm2 _ k1)
        rw [e]
        exact q _ c H (Wd.le.refl _) rel (.int _)
      · exact q.elim
    · exact q.elim
  · exact q.elim
def oSum : OpN := fun ds st => match ds with
  | [x] => (match der st x with
    | .lst ds => (match intsD ds with
      | some ns => .ok (.int ns.sum) st
      | _ => .stuck)
    | _ => .stuck)
  | _ => .stuck
theorem cz_sum (hc : X.calm = true) : CallZ X (.builtin "sum") oSum := fun pins s σ H xs us Q I r ⟨c, vars, st, σ', ds, hw, hm, rel, rv, q⟩ => by
  unfold oSum at q
  split at q
  · rename_i d
    obtain ⟨x, rfl, rx⟩ := rv.one
    split at q
    · rename_i ys ed
      split at q
      · rename_i ns ei
        obtain ⟨a, vs, rfl, h1, h2⟩ := der_lst rel.toRelS rx ed
        have ev := intsD_ok h2 ei
        subst ev
        exact cr_sum hc pins s σ H _ us Q I r ⟨a, ns, rfl, SqL.of h1, q _ c H (Wd.le.refl _) rel (.int _)⟩
      · exact q.elim
    · exact q.elim
  · exact q.elim
theorem de_max (hc : X.calm = true) (hm : X.mg "max" = none) (ha : DA X W [e] l) (hg : Gl X "max" := by rfl) (he : starEach [e] X.env = (false, eval e X.env) :: starEach [] X.env := by rfl) : DE X W (.Call (.Name "max" p) [e] [] pos) (zApp (qOpN oMax) l) := de_blt (cz_max hc).q hm PyProof.Rows.boot_max ha hg (by decide) (by decide) he rfl
theorem de_sum (hc : X.calm = true) (hm : X.mg "sum" = none) (ha : DA X W [e] l) (hg : Gl X "sum" := by rfl) (he : starEach [e] X.env = (false, eval e X.env) :: starEach [] X.env := by rfl) : DE X W (.Call (.Name "sum" p) [e] [] pos) (zApp (qOpN oSum) l) := de_blt (cz_sum hc).q hm PyProof.Rows.boot_sum ha hg (by decide) (by decide) he rfl
end
end Zl

set_option Elab.async false
set_option linter.all false
set_option maxRecDepth 100000
set_option maxHeartbeats 2000000
/-! Layer Z, part 11: dicts whose keys are nested tuples. -/
namespace Zl
open PySem PySem.Spec PyProof.Rows L2

/-! ### keys -/
mutual
theorem RV.nest {P : Program} {w : World} {c : Wd} {H : Hp} {h : Heap} (hok : HOk P w H h) (e : Ex c.G H) : ∀ {v : V} {d : D} {k : NestedKey} {u : Value}, RV c v d → D.key d = some k → RelV v u → NestedIs h k u
  | _, _, _, u, .non, hk, r => by cases hk; cases (show u = Value.none from r); exact .none
  | _, _, _, u, .bl b, hk, r => by cases hk; cases (show u = Value.bool b from r); exact .bool rfl
  | _, _, _, _, .int i, hk, r => by cases hk; obtain ⟨t, rfl⟩ := r; exact .int i t
  | _, _, _, _, .str x, hk, r => by cases hk; obtain ⟨t, rfl⟩ := r; exact .text x t
  | _, _, k, u, .tup (a := a) (vs := vs) (ds := ds) g s, hk, r => by
    cases (show u = Value.ref a from r)
    have hk' : (D.keys ds).map NestedKey.tup = some k := hk
    obtain ⟨ks, h1, rfl⟩ := Option.map_eq_some_iff.mp hk'
    obtain ⟨_, its, rv, o, e1, e2, n, e3⟩ := hok a _ (e _ _ g)
    exact .tup e1 e2 e3 (RVs.nest hok e s h1 rv)
  | _, _, _, _, .lst .., hk, _ => by cases hk
  | _, _, _, _, .dct .., hk, _ => by cases hk
  | _, _, _, _, .ins .., hk, _ => by cases hk
  | _, _, _, _, .loc _, hk, _ => by cases hk
  | _, _, _, _, .fn _, hk, _ => by cases hk
  | _, _, _, _, .scr .., hk, _ => by cases hk
theorem RVs.nest {P : Program} {w : World} {c : Wd} {H : Hp} {h : Heap} (hok : HOk P w H h) (e : Ex c.G H) : ∀ {vs : List V} {ds : List D} {ks : List NestedKey} {us : List Value}, RVs c vs ds → D.keys ds = some ks → Vals vs us → NestedAll h ks us
  | _, _, _, _, .nil, hk, r => by cases hk; cases r; exact .nil
  | _, _, _, _, .cons a b, hk, r => by
    unfold D.keys at hk
    split at hk
    · rename_i k ks e1 e2
      cases hk
      cases r with
      | cons r1 r2 => exact .cons (RV.nest hok e a e1 r1) (RVs.nest hok e b e2 r2)
    · cases hk
end
abbrev nkd (P : Program) (w : World) : HeapKind P w NestedKey := nestedKind P w
abbrev XE3 := NestedKey × Addr × Value
def EntX (w : World) (e : Ent) (x : XE3) : Prop := e.1 = x.1.hash w ∧ e.2.1 = .ref x.2.1 ∧ RelV e.2.2 x.2.2
theorem D.keys_length : ∀ {ks : List D} {nk : List NestedKey}, D.keys ks = some nk → nk.length = ks.length
  | [], _, h => by cases h; rfl
  | k :: ks, _, h => by
    unfold D.keys at h
    split at h
    · rename_i a as e1 e2
      cases h
      rw [List.length_cons, List.length_cons, D.keys_length e2]
    · cases h
theorem ent_xs {P : Program} {w : World} {c : Wd} {H : Hp} {h : Heap} (hok : HOk P w H h) (ex : Ex c.G H) (hw : c.w = w) : ∀ {es : List Ent} {ds : List DictEntry} {ks : List D} {nk : List NestedKey},
    Paired (fun (p : Ent) (e : DictEntry) => e.hash = p.1 ∧ RelV p.2.1 e.key ∧ RelV p.2.2 e.val) es ds → RVs c (es.map (·.2.1)) ks → D.keys ks = some nk → es.map (·.1) = nk.map (NestedKey.hash c.w) → (∀ n ∈ nk, (∃ l, n = .tup l) ∧ n.depth ≤ 8) →
    ∃ xs : List XE3, ds = xs.map (entryOfKey (nkd P w)) ∧ xs.map (·.1) = nk ∧ (∀ x ∈ xs, (nkd P w).is h x.1 x.2.1) ∧ Paired (EntX w) es xs
  | [], _, _, _, .nil, .nil, hk, _, _ => by cases hk; exact ⟨[], rfl, rfl, fun x hx => by simp at hx, .nil⟩
  | e :: es, ⟨dh, dk, dv⟩ :: _, _, _, .cons p1 ps, .cons a b, hk, hh, hd => by
    unfold D.keys at hk
    split at hk
    · rename_i k nk e1 e2
      cases hk
      obtain ⟨q1, q2, q3⟩ := p1
      have q1 : dh = e.1 := q1
      have q2 : L2.RelV e.2.1 dk := q2
      have q3 : L2.RelV e.2.2 dv := q3
      have hh' : e.1 :: es.map (·.1) = NestedKey.hash c.w k :: nk.map (NestedKey.hash c.w) := hh
      injection hh' with h1 h2
      obtain ⟨xs, x1, x2, x3, x4⟩ := ent_xs hok ex hw ps b e2 h2 fun n hn => hd n (List.mem_cons_of_mem _ hn)
      have nis := RV.nest hok ex a e1 q2
      obtain ⟨⟨l, rfl⟩, hdep⟩ := hd k List.mem_cons_self
      cases nis with
      | @tup ka o vs n _ g1 g2 g3 g4 =>
        have ek : e.2.1 = .ref ka := by
          cases q : e.2.1 with
          | ref a' => rw [q] at q2; cases (show Value.ref ka = Value.ref a' from q2); rfl
          | non => rw [q] at q2; cases (show Value.ref ka = Value.none from q2)
          | bl b => rw [q] at q2; cases (show Value.ref ka = Value.bool b from q2)
          | ty b => rw [q] at q2; cases (show Value.ref ka = Value.type b from q2)
          | int i => rw [q] at q2; obtain ⟨t, z⟩ := q2; cases z
          | str i => rw [q] at q2; obtain ⟨t, z⟩ := q2; cases z
          | byt i => rw [q] at q2; obtain ⟨t, z⟩ := q2; cases z
          | flt i => rw [q] at q2; obtain ⟨t, z⟩ := q2; cases z
        refine ⟨(.tup l, ka, dv) :: xs, ?_, by rw [List.map_cons, x2], fun x hx => ?_, .cons ⟨by rw [h1, hw], ek, q3⟩ x4⟩
        · have z : dh = NestedKey.hash w (.tup l) := by rw [← hw, ← h1]; exact q1
          rw [List.map_cons, x1, z] <;> rfl
        · rcases List.mem_cons.mp hx with rfl | hx
          · exact ⟨.tup g1 g2 g3 g4, hdep⟩
          · exact x3 x hx
    · cases hk
/-- the dict at a, as the library tells it -/
theorem raw_H {P : Program} {w : World} {c : Wd} {H : Hp} {h : Heap} {a : Addr} {ep : Nat} {es : List Ent} {ks : List D} {nk : List NestedKey} (hok : HOk P w H h) (ex : Ex c.G H) (hw : c.w = w) (hH : H a = some (.ext (rawD a ep es))) (rk : RVs c (es.map (·.2.1)) ks) (hk : D.keys ks = some nk)
    (hh : es.map (·.1) = nk.map (NestedKey.hash c.w)) (dk : DKeys nk) : (a == sysModules) = false ∧ es.length ≤ sizeLine ∧ ∃ xs : List XE3, h.DictOfH (nkd P w) a xs ∧ xs.map (·.1) = nk ∧ Paired (EntX w) es xs := by
  obtain ⟨⟨hs, hz, o, ds, e1, e2, e3, p⟩, _⟩ := hok a _ hH
  obtain ⟨xs, x1, x2, x3, x4⟩ := ent_xs hok ex hw p rk hk hh dk.2
  exact ⟨hs, hz, xs, ⟨o, ds, ep, e1, e2, e3, x1, x3, by rw [x2]; exact dk.1⟩, x2, x4⟩
theorem rawD_stays {a : Addr} {ep : Nat} {es : List Ent} (h1 h2 : Heap) (r : rawD a ep es h1) (k : ∀ o, h1.get? a = some o → h2.get? a = some o) : rawD a ep es h2 := by
  obtain ⟨hs, hz, o, ds, e1, r⟩ := r
  exact ⟨hs, hz, o, ds, k _ e1, r⟩
theorem paired_map {α β γ : Type} {R : α → γ → Prop} {S : α → β → Prop} {f : β → γ} (h : ∀ a b, S a b → R a (f b)) : ∀ {l : List α} {m : List β}, Paired S l m → Paired R l (m.map f)
  | _, _, .nil => .nil
  | _, _, .cons a b => .cons (h _ _ a) (paired_map h b)
theorem raw_new {P : Program} {w : World} {H : Hp} {h : Heap} {a : Addr} {es : List Ent} {xs : List XE3} (hs : (a == sysModules) = false) (hz : es.length ≤ sizeLine) (x : h.DictOfH (nkd P w) a xs) (p : Paired (EntX w) es xs) : ∃ ep, ObjOk P w H h a (.ext (rawD a ep es)) := by
  obtain ⟨o, ds, ep, e1, e2, e3, e4, e5, e6⟩ := x
  refine ⟨ep, ⟨hs, hz, o, ds, e1, e2, e3, ?_⟩, ⟨o, e1⟩, rawD_stays⟩
  rw [e4]
  exact paired_map (fun e x ⟨h1, h2, h3⟩ => ⟨h1.symm, by rw [h2]; rfl, h3⟩) p

/-! ### looking up, storing, as data -/
def dget : List D → List D → NestedKey → Option D
  | k :: ks, v :: vs, q => if D.key k = some q then some v else dget ks vs q
  | _, _, _ => none
def dput : List D → List D → D → NestedKey → D → List D × List D
  | k :: ks, v :: vs, d, q, x => if D.key k = some q then (k :: ks, x :: vs) else (k :: (dput ks vs d q x).1, v :: (dput ks vs d q x).2)
  | _, _, d, _, x => ([d], [x])
def eput : List Ent → List NestedKey → NestedKey → Ent → List Ent
  | e :: es, n :: nk, q, x => if n = q then (e.1, e.2.1, x.2.2) :: es else e :: eput es nk q x
  | _, _, _, x => [x]
def kput : List NestedKey → NestedKey → List NestedKey
  | n :: nk, q => if n = q then n :: nk else n :: kput nk q
  | [], q => [q]
theorem kput_mem : ∀ {nk : List NestedKey} {q n : NestedKey}, n ∈ kput nk q → n ∈ nk ∨ n = q
  | [], _, _, h => .inr (by simpa [kput] using h)
  | m :: nk, q, n, h => by
    unfold kput at h
    split at h
    · exact .inl h
    · rcases List.mem_cons.mp h with rfl | h
      · exact .inl List.mem_cons_self
      · exact (kput_mem h).imp (List.mem_cons_of_mem _) id
theorem kput_nodup : ∀ {nk : List NestedKey} {q : NestedKey}, nk.Nodup → (kput nk q).Nodup
  | [], _, _ => by simp [kput]
  | m :: nk, q, h => by
    unfold kput
    split
    · exact h
    · rename_i hne
      rw [List.nodup_cons] at h ⊢
      refine ⟨fun hm => ?_, kput_nodup h.2⟩
      rcases kput_mem hm with z | z
      · exact h.1 z
      · exact hne z
theorem DKeys.put {nk : List NestedKey} {q : NestedKey} (h : DKeys nk) (hq : (∃ l, q = .tup l) ∧ q.depth ≤ 8) : DKeys (kput nk q) := ⟨kput_nodup h.1, fun n hn => (kput_mem hn).elim (h.2 n) fun e => by rw [e]; exact hq⟩
/-- the three go along -/
theorem put_all {c : Wd} {kd x : D} {q : NestedKey} {hs : Int} {kv v : V} (hk : D.key kd = some q) (hh : hs = q.hash c.w) (rk : RV c kv kd) (rv : RV c v x) : ∀ {es : List Ent} {ks vs : List D} {nk : List NestedKey},
    RVs c (es.map (·.2.1)) ks → RVs c (es.map (·.2.2)) vs → D.keys ks = some nk → es.map (·.1) = nk.map (NestedKey.hash c.w) →
    RVs c ((eput es nk q (hs, kv, v)).map (·.2.1)) (dput ks vs kd q x).1 ∧ RVs c ((eput es nk q (hs, kv, v)).map (·.2.2)) (dput ks vs kd q x).2 ∧ D.keys (dput ks vs kd q x).1 = some (kput nk q) ∧ (eput es nk q (hs, kv, v)).map (·.1) = (kput nk q).map (NestedKey.hash c.w)
  | [], _, _, _, .nil, .nil, hkk, hhh => by
    cases hkk
    refine ⟨.cons rk .nil, .cons rv .nil, ?_, by simp [eput, kput, hh]⟩
    simp [dput, D.keys, hk, kput]
  | e :: es, _, _, _, .cons (d := k0) (ds := ks) a b, .cons (d := v0) (ds := vs) a' b', hkk, hhh => by
    unfold D.keys at hkk
    split at hkk
    · rename_i n nk e1 e2
      cases hkk
      have hhh' : e.1 :: es.map (·.1) = NestedKey.hash c.w n :: nk.map (NestedKey.hash c.w) := hhh
      injection hhh' with h1 h2
      by_cases hq : n = q
      · have hq' : D.key k0 = some q := by rw [e1, hq]
        unfold eput dput kput
        rw [if_pos hq, if_pos hq', if_pos hq]
        refine ⟨.cons a b, .cons rv b', ?_, ?_⟩
        · show D.keys (k0 :: ks) = some (n :: nk)
          unfold D.keys; rw [e1, e2]
        · show e.1 :: es.map (·.1) = _
          rw [h1, h2]; rfl
      · have hq' : ¬ D.key k0 = some q := by rw [e1]; exact fun z => hq (Option.some.inj z)
        obtain ⟨i1, i2, i3, i4⟩ := put_all hk hh rk rv b b' e2 h2
        unfold eput dput kput
        rw [if_neg hq, if_neg hq', if_neg hq]
        refine ⟨.cons a i1, .cons a' i2, ?_, ?_⟩
        · show D.keys (k0 :: (dput ks vs kd q x).1) = _
          unfold D.keys; rw [e1, i3]
        · show e.1 :: (eput es nk q (hs, kv, v)).map (·.1) = _
          rw [h1, i4]; rfl
    · cases hkk
theorem dput_len : ∀ {ks vs : List D} {d : D} {q : NestedKey} {x : D}, (dput ks vs d q x).1.length ≤ ks.length + 1
  | [], _, _, _, _ => by simp [dput]
  | _ :: _, [], _, _, _ => by simp [dput]
  | k :: ks, v :: vs, d, q, x => by
    unfold dput
    split
    · simp
    · simp only [List.length_cons]; have := dput_len (ks := ks) (vs := vs) (d := d) (q := q) (x := x); omega
theorem stored_all {w : World} {q : NestedKey} {ka : Addr} {hs : Int} {kv v : V} {u : Value} (hh : hs = q.hash w) (hk : kv = .ref ka) (rv : RelV v u) : ∀ {es : List Ent} {xs : List XE3}, Paired (EntX w) es xs → (xs.map (·.1)).Nodup → Paired (EntX w) (eput es (xs.map (·.1)) q (hs, kv, v)) (storedH xs q ka u)
  | [], _, .nil, _ => .cons ⟨hh, hk, rv⟩ .nil
  | e :: es, x :: xs, .cons a b, hn => by
    rw [List.map_cons, List.nodup_cons] at hn
    by_cases hq : x.1 = q
    · have e1 : (atKey (x :: xs) q).isSome = true := by simp [atKey, hq]
      unfold storedH
      rw [if_pos e1, List.map_cons, List.map_cons]
      unfold eput
      rw [if_pos hq]
      obtain ⟨a1, a2, a3⟩ := a
      refine .cons ⟨by simpa [putAt, hq] using a1, by simpa [putAt, hq] using a2, by simpa [putAt, hq] using rv⟩ ?_
      have : xs.map (putAt q u) = xs := by
        rw [List.map_congr_left (g := id) fun y hy => ?_, List.map_id]
        have : y.1 ≠ q := fun z => hn.1 (by rw [hq, ← z]; exact List.mem_map.mpr ⟨y, hy, rfl⟩)
        simp [putAt, this]
      rw [this]
      exact b
    · have ih := stored_all (q := q) (ka := ka) (kv := kv) hh hk rv b hn.2
      have e1 : atKey (x :: xs) q = atKey xs q := by simp [atKey, hq]
      rw [List.map_cons]
      unfold eput
      rw [if_neg hq]
      unfold storedH at ih ⊢
      rw [e1]
      by_cases hsome : (atKey xs q).isSome = true
      · rw [if_pos hsome] at ih ⊢
        rw [List.map_cons]
        have : putAt q u x = x := by simp [putAt, hq]
        rw [this]
        exact .cons a ih
      · rw [if_neg hsome] at ih ⊢
        exact .cons a ih
theorem get_all {c : Wd} {w : World} {q : NestedKey} : ∀ {es : List Ent} {xs : List XE3} {ks vs : List D}, Paired (EntX w) es xs → RVs c (es.map (·.2.1)) ks → RVs c (es.map (·.2.2)) vs → D.keys ks = some (xs.map (·.1)) →
    (∀ d, dget ks vs q = some d → ∃ p v, atKey xs q = some p ∧ RelV v p.2 ∧ RV c v d) ∧ (dget ks vs q = none → atKey xs q = none)
  | [], _, _, _, .nil, .nil, .nil, _ => ⟨fun d h => (by cases h), fun _ => rfl⟩
  | e :: es, x :: xs, _, _, .cons p ps, .cons (d := k0) (ds := ks) a b, .cons (d := v0) (ds := vs) a' b', hk => by
    unfold D.keys at hk
    split at hk
    · rename_i n nk e1 e2
      have hk' : some (n :: nk) = some (x.1 :: xs.map (·.1)) := hk
      injection hk' with hk'
      injection hk' with h1 h2
      obtain ⟨i1, i2⟩ := get_all (q := q) ps b b' (by rw [e2, h2])
      by_cases hq : x.1 = q
      · have hq' : D.key k0 = some q := by rw [e1, h1, hq]
        have e3 : dget (k0 :: ks) (v0 :: vs) q = some v0 := by unfold dget; rw [if_pos hq']
        rw [e3]
        exact ⟨fun d h => (by cases h; exact ⟨x.2, e.2.2, by simp [atKey, hq], p.2.2, a'⟩), fun h => (by cases h)⟩
      · have hq' : ¬ D.key k0 = some q := by rw [e1, h1]; exact fun z => hq (Option.some.inj z)
        have e3 : dget (k0 :: ks) (v0 :: vs) q = dget ks vs q := by
          conv => lhs; unfold dget
          rw [if_neg hq']
        have e4 : atKey (x :: xs) q = atKey xs q := by simp [atKey, hq]
        rw [e3, e4]
        exact ⟨i1, i2⟩
    · cases hk
end Zl

set_option Elab.async false
set_option linter.all false
set_option maxRecDepth 100000
set_option maxHeartbeats 2000000
/-! Layer Z, part 12: what is written: subscripts, append; dicts: displays, get, in. -/
namespace Zl
open PySem PySem.Spec PyProof.Rows L2

/-! ### o[i] = v -/
abbrev Op3 := D → D → D → Sto → Option Sto
def zSet (w : World) (b : Bs) (op : Op3) : TSet := fun o i v H Q => ∃ c vars st σ od id vd st', c.w = w ∧ c.b = b ∧ Rel c vars st σ H ∧ RV c o od ∧ RV c i id ∧ RV c v vd ∧ op od id vd st = some st' ∧ ∀ c' H', c.le c' → Rel c' vars st' σ H' → Q H'
abbrev SetZ (X : Cx) (op : Op3) : Prop := PSet X (zSet X.w (Cx.bs X) op)
def oSetL : Op3 := fun o i v st => match o, i with
  | .loc n, .int k => (match st[n]? with
    | some (true, .lst ds) => (match ixN ds.length k with
      | some j => some (st.set n (true, .lst (ds.set j v)))
      | none => none)
    | _ => none)
  | _, _ => none
def isTupK : NestedKey → Bool
  | .tup _ => true
  | _ => false
/-- the key of a dict -/
def kOf (d : D) : Option NestedKey := match D.key d with
  | some q => if isTupK q && decide (q.depth ≤ 8) then some q else none
  | none => none
theorem kOf_ok {d : D} {q : NestedKey} (h : kOf d = some q) : D.key d = some q ∧ (∃ l, q = .tup l) ∧ q.depth ≤ 8 := by
  unfold kOf at h
  split at h
  · rename_i q' e
    split at h
    · rename_i hb
      simp only [Bool.and_eq_true, decide_eq_true_eq] at hb
      cases h
      refine ⟨e, ?_, hb.2⟩
      cases q with
      | tup l => exact ⟨l, rfl⟩
      | _ => cases hb.1
    · cases h
  · cases h
theorem key_ref {c : Wd} {v : V} {d : D} {l : List NestedKey} (r : RV c v d) (h : D.key d = some (.tup l)) : ∃ a, v = .ref a := by
  cases r with
  | tup g s => exact ⟨_, rfl⟩
  | _ => cases h
def oSetD : Op3 := fun o i v st => match o with
  | .loc n => (match st[n]? with
    | some (true, .dct ks vs) => (match kOf i with
      | some q => if ks.length < sizeLine then some (st.set n (true, .dct (dput ks vs i q v).1 (dput ks vs i q v).2)) else none
      | none => none)
    | _ => none)
  | _ => none
def or3 (f g : Op3) : Op3 := fun o i v st => match f o i v st with
  | some st => some st
  | none => g o i v st
section
variable {X : Cx} {W : WZ}
theorem SetZ.or {f g : Op3} (hf : SetZ X f) (hg : SetZ X g) : SetZ X (or3 f g) := fun pins s σ H o i v ov iv u Q I r1 r2 r3 ⟨c, vars, st, σ', od, id, vd, st', hw, hb, rel, a1, a2, a3, e, q⟩ => by
  unfold or3 at e
  cases ef : f od id vd st with
  | some st2 =>
    rw [ef] at e
    cases e
    exact hf pins s σ H o i v ov iv u Q I r1 r2 r3 ⟨c, vars, st, σ', od, id, vd, st', hw, hb, rel, a1, a2, a3, ef, q⟩
  | none =>
    rw [ef] at e
    exact hg pins s σ H o i v ov iv u Q I r1 r2 r3 ⟨c, vars, st, σ', od, id, vd, st', hw, hb, rel, a1, a2, a3, e, q⟩
theorem set_l : SetZ X oSetL := fun pins s σ H o i v ov iv u Q I r1 r2 r3 ⟨c, vars, st, σ', od, id, vd, st', hw, hb, rel, a1, a2, a3, e, q⟩ => by
  unfold oSetL at e
  split at e
  · rename_i n k
    split at e
    · rename_i ds hn
      split at e
      · rename_i j hj
        cases e
        obtain ⟨a, e1, e2, e3, vs, l1, l2⟩ := rel.live n _ hn
        cases a1 with
        | loc hi =>
          rw [e1] at hi; cases hi
          cases a2
          refine set_list pins s σ H _ _ _ ov iv u Q I r1 r2 r3 ⟨a, vs, k, j, rfl, rfl, l1, by rw [l2.length]; exact hj, ?_⟩
          exact q c _ (Wd.le.refl _) (rel.put e1 e2 e3 (show Live c _ a (.lst (ds.set j vd)) from ⟨_, upd_same, l2.set a3 j⟩))
      · cases e
    · cases e
  · cases e
theorem set_d (hu : X.A.units + 64 < cLine) : SetZ X oSetD := fun pins s σ H o i v ov iv u Q I r1 r2 r3 ⟨c, vars, st, σ', od, id, vd, st', hw, hb, rel, a1, a2, a3, e, q⟩ => by
  unfold oSetD at e
  split at e
  · rename_i n
    split at e
    · rename_i ks vs hn
      split at e
      · rename_i qk hk
        split at e
        · rename_i hz
          cases e
          obtain ⟨a, e1, e2, e3, ep, es, nk, l1, l2, l3, l4, l5, l6⟩ := rel.live n _ hn
          obtain ⟨k1, ⟨l, rfl⟩, k3⟩ := kOf_ok hk
          obtain ⟨ka, rfl⟩ := key_ref a2 k1
          cases a1 with
          | loc hi =>
            rw [e1] at hi; cases hi
            cases (show ov = Value.ref a from r1)
            cases (show iv = Value.ref ka from r2)
            obtain ⟨hs, hz1, xs, x1, x2, x3⟩ := raw_H I.hok rel.ext hw l1 l2 l4 l5 l6
            have kis : (nkd X.prog X.w).is s.heap (.tup l) ka := ⟨RV.nest I.hok rel.ext a2 k1 (show RelV (.ref ka) (.ref ka) from rfl), k3⟩
            have hl := l2.length
            have hx := Paired.length x3
            simp only [List.length_map] at hl
            refine wpAny_setItem_heap (knd := nkd X.prog X.w) (by show X.A.units + 1 + 8 < cLine; omega) kis x1 (fun h' hm' hsb => ?_) (by omega)
            have hst := stored_all (w := X.w) (q := .tup l) (hs := NestedKey.hash X.w (.tup l)) (kv := .ref ka) rfl rfl r3 x3 (by rw [x2]; exact l6.1)
            rw [x2] at hst
            obtain ⟨p1, p2, p3, p4⟩ := put_all (hs := NestedKey.hash X.w (.tup l)) k1 (by rw [hw]) a2 a3 l2 l3 l4 l5
            have hlen : (eput es nk (.tup l) (NestedKey.hash X.w (.tup l), .ref ka, v)).length ≤ sizeLine := by
              have h1 := p1.length
              have h2 := dput_len (ks := ks) (vs := vs) (d := id) (q := .tup l) (x := vd)
              simp only [List.length_map] at h1
              omega
            obtain ⟨ep', new⟩ := raw_new (P := X.prog) (w := X.w) (H := upd H a (.ext (rawD a 0 []))) hs hlen hm' hst
            have new' : ObjOk X.prog X.w (upd H a (.ext (rawD a ep' (eput es nk (.tup l) (NestedKey.hash X.w (.tup l), .ref ka, v))))) h' a (.ext (rawD a ep' (eput es nk (.tup l) (NestedKey.hash X.w (.tup l), .ref ka, v)))) := new
            have I1 := I.write (x := a) (e := a) (t' := s.toks + (nkd X.prog X.w).draws (.tup l)) (h' := h') (by rw [l1]; trivial) (.inl rfl) (fun b ob hb eb => (hsb.2 b hb).trans eb) (by obtain ⟨o, _, _, ho, _⟩ := hm'; exact ⟨o, ho⟩) new'
            refine ⟨_, I1, q c _ (Wd.le.refl _) (rel.put e1 e2 e3 (show Live c _ a (.dct _ _) from ⟨ep', _, _, upd_same, p1, p2, p3, p4, l6.put ⟨⟨l, rfl⟩, k3⟩⟩))⟩
        · cases e
      · cases e
    · cases e
  · cases e
/-- o[i] = e -/
def sSub (op : Op3) (f fo fi : ZE) : ZS := fun vars st => (f vars st).bindS vars fun v st => (fo vars st).bindS vars fun o st => (fi vars st).bindS vars fun i st => match op o i v st with
  | some st => .nx vars st
  | none => .stuck
theorem ds_sub {o i e : Expr} {fo fi f : ZE} {op : Op3} {pos tpos : Pos} (hs : SetZ X op) (he : DE X W e f) (ho : DE X W o fo) (hi : DE X W i fi)
    (h1 : swapsWithSole [.Subscript o i tpos] e pos.line X.env = pure false := by rfl) (h2 : swappedStores [.Subscript o i tpos] e X.env = pure none := by rfl) (h3 : (assignEach [.Subscript o i tpos] X.env).map (·.2) = [assign (.Subscript o i tpos) X.env] := by rfl)
    (ha : ∀ v, assign (.Subscript o i tpos) X.env v = (do
      let ov ← holding [v] (eval o X.env)
      let iv ← holding [v, ov] (eval i X.env)
      standAt tpos
      holding [v, ov, iv] (setItem ov iv v)
      release [v, ov, iv] []) := by intro _; rfl) : DS X W (.Assign [.Subscript o i tpos] e pos) (sSub op f fo fi) :=
  (ps_asg he (pg_sub ho hi hs ha) h1 h2 h3).imp fun E σ H ⟨c, vars, st, hw, hm, rel, q⟩ =>
    ⟨c, vars, st, hw, hm, rel, (PostE.bindS q).imp fun v H1 ⟨c1, d, st1, l1, r1, rv, p1⟩ =>
      ⟨c1, vars, st1, l1.w.trans hw, l1.md.trans hm, r1, (PostE.bindS p1).imp fun ov H2 ⟨c2, od, st2, l2, r2, ro, p2⟩ =>
        ⟨c2, vars, st2, l2.w.trans (l1.w.trans hw), l2.md.trans (l1.md.trans hm), r2, (PostE.bindS p2).imp fun iv H3 ⟨c3, id, st3, l3, r3, ri, p3⟩ => by
          cases e : op od id d st3 with
          | none => rw [e] at p3; exact p3.elim
          | some st4 =>
            rw [e] at p3
            exact ⟨c3, vars, st3, σ, od, id, d, st4, l3.w.trans (l2.w.trans (l1.w.trans hw)), l3.b.trans (l2.b.trans (l1.b.trans (mgo hm))), r3, ro.mono l3, ri, (rv.mono l2).mono l3, e, fun c' H' l r => p3 c' σ H' l r⟩⟩⟩⟩
end
end Zl

set_option Elab.async false
set_option linter.all false
set_option maxRecDepth 100000
set_option maxHeartbeats 2000000
/-! Layer Z, part 13: tuples repeated; dict displays, get, in; append; defaults. -/
namespace Zl
open PySem PySem.Spec PyProof.Rows L2
open AutoSeq1 (wpAny_loadPart')
theorem tuple_mul1 (l : Addr) (items : Array Value) (n : Nat) (dd : Option Addr) (sl : Array (Option Value)) (u : Tok) :
    Meets (Builtin.«tuple.__mul__» ⟨[.ref l, .int 1 u], []⟩) (fun _ R s => s.heap.get? l = some { cls := .type "tuple", dict := dd, data := .seq items n, slots := sl } ∧
      R (.ok (.ret (Value.ref l))) s) :=
  .of_wp fun prog w A R s h => by
    obtain ⟨hp, g, d, tk, os⟩ := s
    obtain ⟨hl, h⟩ := h
    have f1 := AutoSeq1.idx_int
    wp_walk using wpAny_loadPart' hl
    exact ⟨_, rfl, h⟩
theorem tuple_mul0 (l : Addr) (items : Array Value) (n : Nat) (dd : Option Addr) (sl : Array (Option Value)) (u : Tok) (hi : items.isEmpty = false) :
    Meets (Builtin.«tuple.__mul__» ⟨[.ref l, .int 0 u], []⟩) (fun _ R s => s.heap.get? l = some { cls := .type "tuple", dict := dd, data := .seq items n, slots := sl } ∧
      R (.ok (.ret (Value.ref s.heap.objs.size))) { s with heap := s.heap.push { cls := .type "tuple", data := .seq #[] } }) :=
  .of_wp fun prog w A R s h => by
    obtain ⟨hp, g, d, tk, os⟩ := s
    obtain ⟨hl, h⟩ := h
    have f1 := AutoSeq1.idx_int
    have c1 : (items.isEmpty || (0 : Int) == 1) = false := by rw [hi]; rfl
    wp_walk using wpAny_loadPart' hl
    exact ⟨_, rfl, h⟩
def rRep01 (K : PySem.W.Frag) : R2 := fun x y H Q => ∃ l k xs, x = .ref l ∧ y = .int k ∧ SqT K H l xs ∧ xs ≠ [] ∧ ((k = 1 ∧ Q (.ref l) H) ∨ (k = 0 ∧ ∀ p, H p = none → Q (.ref p) (upd H p (.tup []))))
section
variable {X : Cx}
theorem op_rep01 : OpR X (binaryOp .Mult) (rRep01 X.K) := by
  intro pins s σ H x y v u Q I rx ry h
  obtain ⟨l, k, xs, rfl, rfl, hT, hne, h⟩ := h
  cases rx
  obtain ⟨t, rfl⟩ := ry
  obtain ⟨its, r, ⟨⟨cls, dd, data, sl⟩, ho, hc, n, hd⟩, hs⟩ := I.tuple hT
  simp only at hc hd
  subst hc hd
  have hle : its.length = xs.length := r.length.symm
  have hn : its ≠ [] := fun e => hne (by
    rw [e] at hle
    exact List.eq_nil_of_length_eq_zero hle.symm)
  have hi : its.toArray.isEmpty = false := by
    cases its with
    | nil => exact absurd rfl hn
    | cons a b => rfl
  refine wpAny_binaryOp_repeat_ref (T := "tuple") (U := "int") (by decide) ⟨_, ho, rfl⟩ (fun s' => typeIs_int s' k t) noFill_tuple_mul F.fills_int_mul F.slot_int_rmul repeat_tuple F.slot_int_index.lookup
    (call_meets F.slot_int_rmul (typeIs_int s k t) F.entry_int_rmul (F.args_int_rmul_2 _ _) (int_rmul_tuple k t l its.toArray n dd sl)
      ⟨ho, rfl, ⟨_, ho, rfl⟩, ?_⟩)
  rcases h with ⟨rfl, q⟩ | ⟨rfl, q⟩
  · exact call_meets F.slot_tuple_mul ⟨_, ho, rfl⟩ F.entry_tuple_mul (F.args_tuple_mul_2 _ _) (tuple_mul1 l its.toArray n dd sl t) ⟨ho, ⟨.ref l, H, I, rfl, q⟩⟩
  · refine call_meets F.slot_tuple_mul ⟨_, ho, rfl⟩ F.entry_tuple_mul (F.args_tuple_mul_2 _ _) (tuple_mul0 l its.toArray n dd sl t hi) ⟨ho, ?_⟩
    refine ⟨.ref s.heap.objs.size, _, I.laid (t' := s.toks) (o := .tup []) (fun b ob q => Heap.get?_push_of_some _ q) (Nat.le_refl _) ?_, rfl, q _ (I.hok.fresh (Nat.le_refl _))⟩
    exact ⟨Nat.zero_le _, [], .nil, IsTup.new _ _⟩
def oMulT : Op2 := fun x y st => match x, y with
  | .tup (d :: ds), .int k => if k = 0 then .ok (.tup []) st else if k = 1 then .ok (.tup (d :: ds)) st else if 2 ≤ k ∧ k ≤ 1000 ∧ (d :: ds).length ≤ 1000 then .ok (.tup (List.replicate k.toNat (d :: ds)).flatten) st else .stuck
  | _, _ => .stuck
theorem oz_mulT : OpZ X (binaryOp .Mult) oMulT := fun pins s σ H x y v u Q I rx ry ⟨c, vars, st, σ', dx, dy, hw, hm, rel, r1, r2, q⟩ => by
  unfold oMulT at q
  split at q
  · rename_i d ds k
    have r1' := r1
    cases r1 with
    | @tup a vs _ g sv =>
      cases r2
      have hT : SqT X.K H a vs := SqT.of (rel.ext _ _ g)
      have hne : vs ≠ [] := fun e => by rw [e] at sv; cases sv
      split at q
      · rename_i h0
        exact op_rep01 pins s σ H _ _ v u Q I rx ry ⟨a, k, vs, rfl, rfl, hT, hne, .inr ⟨h0, fun p hp => new_tup rel .nil hp q⟩⟩
      · split at q
        · rename_i h1
          exact op_rep01 pins s σ H _ _ v u Q I rx ry ⟨a, k, vs, rfl, rfl, hT, hne, .inl ⟨h1, q _ c H (Wd.le.refl _) rel r1'⟩⟩
        · split at q
          · rename_i hz
            exact op_repT pins s σ H _ _ v u Q I rx ry ⟨a, k, vs, rfl, rfl, hT, hne, hz.1, hz.2.1, by rw [sv.length]; exact hz.2.2, fun p hp => new_tup rel (sv.rep k.toNat) hp q⟩
          · exact q.elim
  · exact q.elim
def oAdd (m : Bool) : Op2 := orO oAddI (orO oAddT (orO oAddS (oAddL m)))
theorem oz_add (m : Bool) : OpZ X (binaryOp .Add) (oAdd m) := oz_addI.or (oz_addT.or (oz_addS.or (oz_addL m)))
def oMul : Op2 := orO oMulI oMulT
theorem oz_mul : OpZ X (binaryOp .Mult) oMul := oz_mulI.or oz_mulT
end

/-! ### o.m(e) of a built-in's object -/
/-- chk: what the object must be ahead of the arguments -/
def zMeth1 (chk : D → Bool) (op : D → D → Sto → R) (fo fe : ZE) : ZE := fun vars st => (fo vars st).bind fun o st => if chk (der st o) = true then (fe vars st).bind fun v st => op o v st else .stuck
def zMethN (chk : D → Bool) (op : D → List D → Sto → R) (fo : ZE) (l : ZL) : ZE := fun vars st => (fo vars st).bind fun o st => if chk (der st o) = true then (l vars st).bind fun ds st => op o ds st else .stuck
def isLst : D → Bool
  | .lst _ => true
  | _ => false
def isDct : D → Bool
  | .dct _ _ => true
  | _ => false
def tyOfD (d : D) : String := match d with
  | .lst _ => "list"
  | .dct _ _ => "dict"
  | .str _ => "str"
  | _ => ""
abbrev zOpM (w : World) (b : Bs) (op : D → List D → Sto → R) : V → List V → Hp → VK → Prop := fun x xs H Q => ∃ c vars st σ d ds, c.w = w ∧ c.b = b ∧ Rel c vars st σ H ∧ RV c x d ∧ RVs c xs ds ∧ PostE (fun _ _ _ _ => False) c vars σ Q (op d ds st)
/-- the method, by values -/
def MtZ (X : Cx) (id : String) (op : D → List D → Sto → R) : Prop :=
  ∀ (pins : List (Addr × Obj)) (s : Shared) (σ : L2.St) (H : Hp) (x : V) (xs : List V) (v : Value) (us : List Value) (Q : VK), Inv X pins σ H s → RelV x v → Vals xs us → zOpM X.w (Cx.bs X) op x xs H Q →
    wpAny (model X.prog X.w) X.A (call (.builtin id) (v :: us)) (EP X pins σ Q) X.xe s
theorem obj_ty {X : Cx} {pins : List (Addr × Obj)} {σ : L2.St} {H : Hp} {s : Shared} {c : Wd} {st : Sto} {x : V} {d : D} {u : Value} (I : Inv X pins σ H s) (r : RelS c st H) (rv : RV c x d) (ru : RelV x u) (h : isLst (der st d) = true ∨ isDct (der st d) = true) :
    s.TypeIs u (tyOfD (der st d)) ∧ ∀ a, u = .ref a → ∃ ob, s.heap.get? a = some ob ∧ ob.dict = none := by
  cases ed : der st d with
  | lst ds =>
    obtain ⟨a, vs, rfl, h1, _⟩ := der_lst r rv ed
    cases (show u = Value.ref a from ru)
    obtain ⟨_, its, n, _, e⟩ := I.hok a _ h1
    exact ⟨⟨_, e, rfl⟩, fun b eb => by cases eb; exact ⟨_, e, rfl⟩⟩
  | dct ks vs =>
    obtain ⟨a, ep, es, nk, rfl, h1, _⟩ := der_dct r rv ed
    cases (show u = Value.ref a from ru)
    obtain ⟨⟨_, _, o, _, e1, e2, _⟩, _⟩ := I.hok a _ h1
    exact ⟨⟨_, e1, e2.1⟩, fun b eb => by cases eb; exact ⟨_, e1, e2.2.1⟩⟩
  | _ => rw [ed] at h; rcases h with h | h <;> cases h
section
variable {X : Cx} {W : WZ} {o e : Expr} {es : List Expr} {fo f : ZE} {l : ZL} {apos cpos : Pos} {name : Str} {T id : String} {chk : D → Bool} {op : D → List D → Sto → R}
theorem de_meth (hT : ∀ d, chk d = true → (isLst d = true ∨ isDct d = true) ∧ tyOfD d = T) (pa : PlainAttrs T) (slot : Slot T name id) (hty : typeOf (.builtin id) = pure (.type "method_descriptor")) (hmt : MtZ X id op) (ho : DE X W o fo) (ha : DA X W (e :: es) l)
    (hbase : attributeBase o name X.env (eval o X.env) = eval o X.env := by rfl)
    (hfew : ((backTo cpos (starEach (e :: es) X.env)).all (fun x => !x.1) && (backToKw cpos (keywordEach [] X.env)).all (fun x => x.1.isSome)
      && decide ((e :: es).length + ([] : List Keyword).length + (if ([] : List Keyword).isEmpty then 0 else 1) < 30)) = true := by rfl)
    (hline : (apos.endLine == cpos.line) = true := by rfl) (hs : starEach (e :: es) X.env = (false, eval e X.env) :: starEach es X.env := by rfl) (hplain : (backTo cpos (starEach es X.env)).any (·.1) = false := by rfl) :
    DE X W (.Call (.Attribute o name apos) (e :: es) [] cpos) (zMethN chk (fun o ds st => (op o ds st).quiet) fo l) := by
  refine ⟨fun pins s σ H Q I ⟨c, vars, st, hw, hm, rel, q⟩ => ?_⟩
  refine wpAny_Call_method_late hbase hfew hline rfl (thn (ho.run pins s σ H _ I ⟨c, vars, st, hw, hm, rel, PostE.bind q⟩) fun v s1 ⟨x, H1, I1, r1, c1, d, st1, l1, R1, rv, p1⟩ => ?_)
  by_cases hc : chk (der st1 d) = true
  · rw [if_pos hc] at p1
    obtain ⟨h1, h2⟩ := hT _ hc
    obtain ⟨t1, t2⟩ := obj_ty I1 R1.toRelS rv r1 h1
    rw [h2] at t1
    refine ⟨T, id, pa, slot, hty, t1, t2, ?_⟩
    have hA := ha.run cpos pins s1 σ H1 _ I1 ⟨c1, vars, st1, l1.w.trans hw, l1.md.trans hm, R1, PostL.bind p1⟩
    rw [hs] at hA ⊢
    refine Calls.callWith_builtin (by show (false || (backTo cpos (starEach es X.env)).any (·.1)) = false; rw [hplain] <;> rfl) (Calls.evalArgs_plain ?_)
    exact thn hA fun us s2 ⟨vs, H2, I2, r2, c2, ds, st2, l2, R2, rvs, p2⟩ => hmt pins s2 σ H2 x vs v us Q I2 r1 r2 ⟨c2, vars, st2, σ, d, ds, l2.w.trans (l1.w.trans hw), mgo (l2.md.trans (l1.md.trans hm)), R2, rv.mono l2, rvs, by
      dsimp only at p2
      cases eo : op d ds st2 with
      | ok z st3 => rw [eo] at p2; exact p2
      | rz z st3 => rw [eo] at p2; exact p2.elim
      | stuck => rw [eo] at p2; exact p2⟩
  · rw [if_neg hc] at p1; exact p1.elim
def oAppend : D → List D → Sto → R := fun o vs st => match o, vs with
  | .loc n, [v] => (match st[n]? with
    | some (true, .lst ds) => if ds.length < sizeLine then .ok .non (st.set n (true, .lst (ds ++ [v]))) else .stuck
    | _ => .stuck)
  | _, _ => .stuck
theorem mz_append : MtZ X "list.append" oAppend := fun pins s σ H x xs v us Q I rx rv ⟨c, vars, st, σ', d, ds, hw, hb, rel, r1, r2, q⟩ => by
  unfold oAppend at q
  split at q
  · rename_i n y
    split at q
    · rename_i zs hn
      split at q
      · rename_i hz
        obtain ⟨a, e1, e2, e3, vs, l1, l2⟩ := rel.live n _ hn
        obtain ⟨yv, rfl, ry⟩ := r2.one
        cases r1 with
        | loc hi =>
          rw [e1] at hi; cases hi
          exact mt_append pins s σ H _ _ v us Q I rx rv ⟨a, vs, yv, rfl, rfl, l1, by rw [l2.length]; exact hz, q .non c _ (Wd.le.refl _) (rel.put e1 e2 e3 (show Live c _ a (.lst (zs ++ [y])) from ⟨_, upd_same, l2.append (.cons ry .nil)⟩)) .non⟩
      · exact q.elim
    · exact q.elim
  · exact q.elim
theorem de_append (ho : DE X W o fo) (ha : DA X W [e] l)
    (hbase : attributeBase o "append" X.env (eval o X.env) = eval o X.env := by rfl)
    (hfew : ((backTo cpos (starEach [e] X.env)).all (fun x => !x.1) && (backToKw cpos (keywordEach [] X.env)).all (fun x => x.1.isSome)
      && decide ([e].length + ([] : List Keyword).length + (if ([] : List Keyword).isEmpty then 0 else 1) < 30)) = true := by rfl)
    (hline : (apos.endLine == cpos.line) = true := by rfl) (hs : starEach [e] X.env = (false, eval e X.env) :: starEach [] X.env := by rfl) :
    DE X W (.Call (.Attribute o "append" apos) [e] [] cpos) (zMethN isLst (fun o ds st => (oAppend o ds st).quiet) fo l) :=
  de_meth (T := "list") (fun d h => ⟨.inl h, by cases d <;> first | rfl | cases h⟩) F.plainAttrs_list F.slot_list_append F.type_list_append mz_append ho ha hbase hfew hline hs rfl

/-! ### d.get(k, x) -/
def oGet : D → List D → Sto → R := fun o vs st => match der st o, vs with
  | .dct ks ws, [k, x] => (match kOf k with
    | some q => (match dget ks ws q with
      | some v => .ok v st
      | none => .ok x st)
    | none => .stuck)
  | _, _ => .stuck
theorem mz_get (hu : X.A.units + 64 < cLine) : MtZ X "dict.get" oGet := fun pins s σ H x xs v us Q I rx rv ⟨c, vars, st, σ', d, ds, hw, hb, rel, r1, r2, q⟩ => by
  unfold oGet at q
  split at q
  · rename_i ks ws kd xd ed
    split at q
    · rename_i qk hk
      obtain ⟨a, ep, es, nk, rfl, l1, l2, l3, l4, l5, l6⟩ := der_dct rel.toRelS r1 ed
      cases (show v = Value.ref a from rx)
      obtain ⟨kv, xv, rfl, rk, rxx⟩ := r2.two
      obtain ⟨k1, ⟨l, rfl⟩, k3⟩ := kOf_ok hk
      obtain ⟨ka, rfl⟩ := key_ref rk k1
      obtain ⟨uk, ux, rfl, q1, q2⟩ := vals2 rv
      cases (show uk = Value.ref ka from q1)
      obtain ⟨hs, hz1, xs, x1, x2, x3⟩ := raw_H I.hok rel.ext hw l1 l2 l4 l5 l6
      have kis : (nkd X.prog X.w).is s.heap (.tup l) ka := ⟨RV.nest I.hok rel.ext rk k1 (show RelV (.ref ka) (.ref ka) from rfl), k3⟩
      obtain ⟨g1, g2⟩ := get_all (q := .tup l) x3 l2 l3 (by rw [x2]; exact l4)
      refine call_meetsIn F.slot_dict_get x1.typeIs F.entry_dict_get (F.args_dict_get_3 _ _ _) (meetsH_dict_get_default (nkd X.prog X.w) a ka hs ux) ⟨by show X.A.units + 1 + 8 < cLine; omega, .tup l, xs, kis, x1, ?_⟩
      split at q
      · rename_i y hy
        obtain ⟨p, yv, e1, e2, e3⟩ := g1 y hy
        rw [e1]
        exact ⟨yv, H, I.tok _, e2, q yv c H (Wd.le.refl _) rel e3⟩
      · rename_i hy
        rw [g2 hy]
        exact ⟨xv, H, I.tok _, q2, q xv c H (Wd.le.refl _) rel rxx⟩
    · exact q.elim
  · exact q.elim
theorem de_get {e2 : Expr} (hu : X.A.units + 64 < cLine) (ho : DE X W o fo) (ha : DA X W [e, e2] l)
    (hbase : attributeBase o "get" X.env (eval o X.env) = eval o X.env := by rfl)
    (hfew : ((backTo cpos (starEach [e, e2] X.env)).all (fun x => !x.1) && (backToKw cpos (keywordEach [] X.env)).all (fun x => x.1.isSome)
      && decide ([e, e2].length + ([] : List Keyword).length + (if ([] : List Keyword).isEmpty then 0 else 1) < 30)) = true := by rfl)
    (hline : (apos.endLine == cpos.line) = true := by rfl) (hs : starEach [e, e2] X.env = (false, eval e X.env) :: starEach [e2] X.env := by rfl) (hplain : (backTo cpos (starEach [e2] X.env)).any (·.1) = false := by rfl) :
    DE X W (.Call (.Attribute o "get" apos) [e, e2] [] cpos) (zMethN isDct (fun o ds st => (oGet o ds st).quiet) fo l) :=
  de_meth (T := "dict") (fun d h => ⟨.inr h, by cases d <;> first | rfl | cases h⟩) F.plainAttrs_dict F.slot_dict_get F.type_dict_get (mz_get hu) ho ha hbase hfew hline hs hplain
end
end Zl

set_option Elab.async false
set_option linter.all false
set_option maxRecDepth 100000
set_option maxHeartbeats 2000000
/-! Layer Z, part 14: dict displays, in, subscripts of dicts. -/
namespace Zl
open PySem PySem.Spec PyProof.Rows L2
theorem newRaw {P : Program} {w : World} {H : Hp} {h' : Heap} {a : Addr} (hs : (a == sysModules) = false) (o : Obj) (ho : h'.get? a = some o) (hc : o.ExactDict) (hd : o.data = .dict #[] 0) : ObjOk P w H h' a (.ext (rawD a 0 [])) :=
  ⟨⟨hs, Nat.zero_le _, o, #[], ho, hc, hd, .nil⟩, ⟨o, ho⟩, rawD_stays⟩
section
variable {X : Cx} {W : WZ} {pos : Pos} {k v : Expr}
theorem newRawPush {H : Hp} {pins : List (Addr × Obj)} {σ : L2.St} {s : Shared} (I : Inv X pins σ H s) : Inv X pins σ (upd H s.heap.objs.size (.ext (rawD s.heap.objs.size 0 []))) { s with heap := s.heap.push { cls := .type "dict", data := .dict #[] } } :=
  I.laid (a := s.heap.objs.size) (t' := s.toks) (fun _ _ q => Heap.get?_push_of_some _ q) (Nat.le_refl _) (newRaw (beq_eq_false_iff_ne.mpr (Nat.ne_of_gt I.big)) { cls := .type "dict", data := .dict #[] } (Heap.get?_push_size _ rfl) ⟨rfl, rfl, rfl⟩ rfl)
theorem live_empty {c : Wd} {H : Hp} {p : Addr} : Live c (upd H p (.ext (rawD p 0 []))) p (.dct [] []) :=
  ⟨0, [], [], upd_same, .nil, .nil, rfl, rfl, List.nodup_nil, fun n h => by cases h⟩
theorem new_dct {Wx : WX} {c : Wd} {vars : Vars} {st : Sto} {σ : L2.St} {H : Hp} {Q : VK} {m : Bool} {p : Addr} (r : Rel c vars st σ H) (hp : H p = none) (q : PostE Wx c vars σ Q (newD m (.dct [] []) st)) : Q (.ref p) (upd H p (.ext (rawD p 0 []))) := by
  cases m with
  | true =>
    refine q (.ref p) { c with ix := c.ix ++ [p] } _ Wd.le_newL (r.newL hp live_empty) (.loc ?_)
    show (c.ix ++ [p])[st.length]? = some p
    rw [← r.len, List.getElem?_append_right (Nat.le_refl _), Nat.sub_self]; rfl
  | false =>
    refine q (.ref p) { c with G := upd c.G p _ } _ (Wd.le_newG (Rel.fresh r.toRelS hp).1) (r.newG hp) ?_
    exact .dct (nk := []) upd_same .nil .nil rfl rfl ⟨List.nodup_nil, fun n h => by cases h⟩
def zDct0 (m : Bool) : ZE := fun _ st => newD m (.dct [] []) st
theorem de_dct0 (m : Bool) : DE X W (.Dict [] [] pos) (zDct0 m) := ⟨fun pins s σ H Q I ⟨c, vars, st, hw, hm, rel, q⟩ =>
  wpAny_Dict_empty ⟨.ref s.heap.objs.size, _, newRawPush I, rfl, new_dct rel (I.hok.fresh (Nat.le_refl _)) q⟩⟩
/-- a store into a dict of the run's own -/
theorem dset_z (hu : X.A.units + 64 < cLine) {pins : List (Addr × Obj)} {s : Shared} {σ : L2.St} {H : Hp} {c : Wd} {vars : Vars} {st st' : Sto} {σ' : L2.St} {a : Addr} {n : Nat} {id vd : D} {i v : V} {iv u : Value} {E : Value → Shared → Prop} (I : Inv X pins σ H s) (hw : c.w = X.w) (rel : Rel c vars st σ' H)
    (hi : c.ix[n]? = some a) (a2 : RV c i id) (a3 : RV c v vd) (r2 : RelV i iv) (r3 : RelV v u) (e : oSetD (.loc n) id vd st = some st') : wpAny (model X.prog X.w) X.A (dictSet a iv u) (fun _ s' => ∃ H', Inv X pins σ H' s' ∧ Rel c vars st' σ' H') E s := by
  unfold oSetD at e
  dsimp only at e
  split at e
  · rename_i ks vs hn
    split at e
    · rename_i qk hk
      split at e
      · rename_i hz
        cases e
        obtain ⟨a', e1, e2, e3, ep, es, nk, l1, l2, l3, l4, l5, l6⟩ := rel.live n _ hn
        obtain ⟨k1, ⟨l, rfl⟩, k3⟩ := kOf_ok hk
        obtain ⟨ka, rfl⟩ := key_ref a2 k1
        rw [e1] at hi; cases hi
        cases (show iv = Value.ref ka from r2)
        obtain ⟨hs, hz1, xs, x1, x2, x3⟩ := raw_H I.hok rel.ext hw l1 l2 l4 l5 l6
        have kis : (nkd X.prog X.w).is s.heap (.tup l) ka := ⟨RV.nest I.hok rel.ext a2 k1 (show RelV (.ref ka) (.ref ka) from rfl), k3⟩
        have hl := l2.length
        have hx := Paired.length x3
        simp only [List.length_map] at hl
        refine wpAny_dictSet_heap (knd := nkd X.prog X.w) (by show X.A.units + 8 < cLine; omega) kis x1 (fun h' hm' hsb => ?_) (by omega)
        have hst := stored_all (w := X.w) (q := .tup l) (hs := NestedKey.hash X.w (.tup l)) (kv := .ref ka) rfl rfl r3 x3 (by rw [x2]; exact l6.1)
        rw [x2] at hst
        obtain ⟨p1, p2, p3, p4⟩ := put_all (hs := NestedKey.hash X.w (.tup l)) k1 (by rw [hw]) a2 a3 l2 l3 l4 l5
        have hlen : (eput es nk (.tup l) (NestedKey.hash X.w (.tup l), .ref ka, v)).length ≤ sizeLine := by
          have h1 := p1.length
          have h2 := dput_len (ks := ks) (vs := vs) (d := id) (q := .tup l) (x := vd)
          simp only [List.length_map] at h1
          omega
        obtain ⟨ep', new⟩ := raw_new (P := X.prog) (w := X.w) (H := upd H a (.ext (rawD a 0 []))) hs hlen hm' hst
        have new' : ObjOk X.prog X.w (upd H a (.ext (rawD a ep' (eput es nk (.tup l) (NestedKey.hash X.w (.tup l), .ref ka, v))))) h' a (.ext (rawD a ep' (eput es nk (.tup l) (NestedKey.hash X.w (.tup l), .ref ka, v)))) := new
        have I1 := I.write (x := a) (e := a) (t' := s.toks + (nkd X.prog X.w).draws (.tup l)) (h' := h') (by rw [l1]; trivial) (.inl rfl) (fun b ob hb eb => (hsb.2 b hb).trans eb) (by obtain ⟨o, _, _, ho, _⟩ := hm'; exact ⟨o, ho⟩) new'
        exact ⟨_, I1, rel.put e1 e2 e3 (show Live c _ a (.dct _ _) from ⟨ep', _, _, upd_same, p1, p2, p3, p4, l6.put ⟨⟨l, rfl⟩, k3⟩⟩)⟩
      · cases e
    · cases e
  · cases e
/-- {k: v} -/
def zDct1 (m : Bool) (fk fv : ZE) : ZE := fun vars st => (fk vars (st ++ [(true, .dct [] [])])).bind fun kd st1 => (fv vars st1).bind fun vd st2 => match oSetD (.loc st.length) kd vd st2 with
  | some st3 => if m = true then .ok (.loc st.length) st3 else frz (.loc st.length) st3
  | none => .stuck
theorem de_dct1 (hu : X.A.units + 64 < cLine) (m : Bool) {fk fv : ZE} (hk : DE X W k fk) (hv : DE X W v fv) : DE X W (.Dict [some k] [v] pos) (zDct1 m fk fv) := ⟨fun pins s σ H Q I ⟨c, vars, st, hw, hm, rel, q⟩ => by
  refine wpAny_Dict_any rfl rfl (by simp) (by simp) (pairTrees_cons_walk ?_)
  have hp : H s.heap.objs.size = none := I.hok.fresh (Nat.le_refl _)
  have hix : (c.ix ++ [s.heap.objs.size])[st.length]? = some s.heap.objs.size := by
    rw [← rel.len, List.getElem?_append_right (Nat.le_refl _), Nat.sub_self]; rfl
  refine thn (hk.run pins _ σ _ _ (newRawPush I) ⟨{ c with ix := c.ix ++ [s.heap.objs.size] }, vars, _, hw, hm, rel.newL hp live_empty, PostE.bind (PostE.mono Wd.le_newL q)⟩) fun kv s1 ⟨x, H1, I1, rk, c1, kd, st1, l1, r1, rv1, p1⟩ => ?_
  refine thn (hv.run pins _ σ _ _ I1 ⟨c1, vars, st1, l1.w.trans hw, l1.md.trans hm, r1, PostE.bind p1⟩) fun vv s2 ⟨y, H2, I2, rvv, c2, vd, st2, l2, r2, rv2, p2⟩ => ?_
  refine pairTrees_nil_walk ?_
  cases e : oSetD (.loc st.length) kd vd st2 with
  | none => rw [e] at p2; exact p2.elim
  | some st3 =>
    rw [e] at p2
    dsimp only at p2
    have hi2 := prefix_get l2.ix (prefix_get l1.ix hix)
    refine wpAny_bind ?_
    refine wpAny_bind (thn (dset_z hu I2 (l2.w.trans (l1.w.trans hw)) r2 hi2 (rv1.mono l2) rv2 rk rvv e) fun _ s3 ⟨H3, I3, r3⟩ => wpAny_pure ?_)
    refine wpAny_pure ⟨.ref s.heap.objs.size, H3, I3, rfl, ?_⟩
    cases m with
    | true => exact p2 (.ref s.heap.objs.size) c2 H3 (Wd.le.refl _) r3 (.loc hi2)
    | false => exact frz_out r3 (.loc hi2) p2⟩
end
end Zl

set_option Elab.async false
set_option linter.all false
set_option maxRecDepth 100000
set_option maxHeartbeats 2000000
/-! Layer Z, part 15: defs with defaults; calls without arguments. -/
namespace Zl
open PySem PySem.Spec PyProof.Rows L2
/-- the name x of the module holds such a def; the last of its parameters have been left out -/
def OkFD (P : Program) (w : World) (K : PySem.W.Frag) (mg : Str → Option Value) (base : Heap) (k : Nat) (x : Str) (dvs : List V) (sp : Sp) : Prop :=
  ∃ f fd ps ds, mg x = some (.ref f) ∧ PySem.W.keepIn K (.ref f) = true ∧ Vals dvs ds ∧ Binds K fd ps ds ∧ FnOk P w K mg base (L2.CX P w) k f fd ps sp
abbrev OkAD (P : Program) (w : World) (K : PySem.W.Frag) (mg : Str → Option Value) (base : Heap) (md : Md) (k : Nat) (x : Str) (dvs : List V) (g : FA) : Prop := OkFD P w K mg base k x dvs (spA w md g)
theorem OkFD.mono {P : Program} {w : World} {K : PySem.W.Frag} {mg : Str → Option Value} {base : Heap} {j k : Nat} {x : Str} {dvs : List V} {sp : Sp} (F : OkFD P w K mg base j x dvs sp) (h : j ≤ k) : OkFD P w K mg base k x dvs sp :=
  let ⟨f, fd, ps, ds, a, b, c, d, e⟩ := F; ⟨f, fd, ps, ds, a, b, c, d, e.mono h⟩
def zAppd (dds : List D) (l : ZL) : ZL := fun vars st => (l vars st).bindL fun ds st => .ok (ds ++ dds) st
section
variable {X : Cx} {W : WZ} {k : Nat} {x : Str} {p pos : Pos} {e : Expr} {es : List Expr} {l : ZL}
theorem de_callAD {g : FA} {dvs : List V} {dds : List D} (hd : ∀ c : Wd, RVs c dvs dds) (z : Zx X W k) (F : OkAD X.prog X.w X.K X.mg X.base (Cx.md X W) k x dvs g) (ha : DA X W (e :: es) l) (hg : Gl X x := by rfl) (hdb : (x == ("__debug__" : Str)) = false := by decide)
    (he : starEach (e :: es) X.env = (false, eval e X.env) :: starEach es X.env := by rfl) (hpl : (backTo pos (starEach es X.env)).any (·.1) = false := by rfl) : DE X W (.Call (.Name x p) (e :: es) [] pos) (zCallA g (zAppd dds l)) := by
  obtain ⟨f, fd, ps, dsv, hm, hk, hv, hb, F⟩ := F
  exact (pe_callSD F z.room hg hm hk hb hv z.px ha hdb he hpl).imp fun σ H Q ⟨c, vars, st, hw, hm, rel, q⟩ =>
    ⟨c, vars, st, hw, hm, rel, (PostL.bindL (PostL.bind q)).imp fun vs H1 ⟨c1, ds, st1, l1, r1, rv, p1⟩ => by
      obtain ⟨c2, ds2, st2, l2, r2, rv2, p2⟩ := p1 (vs ++ dvs) c1 H1 (Wd.le.refl _) r1 (rv.append (hd c1))
      exact ent_callA (l2.w.trans hw) (l2.md.trans hm) r2 rv2 p2⟩
end
section
variable {P : Program} {w : World} {K : PySem.W.Frag} {mg : Str → Option Value} {base : Heap} {N : List Str} {qual : Str} {scope : Scope} {f : Addr} {cd : Value} {A : Around} {outer : List Env} {s : Shared} {H : Hp} {E : XK} {T : List Addr} {TL : List (Addr × Str)} {k : Nat}
/-- THE RULE, with defaults -/
theorem okAD_of {x qual : Str} {params : Arguments} {body : List Stmt} {scope : Scope} {dvs dvs' : List V} {fd : FuncData} {ps : List Str} {m : ZS} (F : FunD K x qual params body scope dvs' [] f fd) (hx : mg x = some (.ref f)) (S : FnScope N ps scope)
    (hb : ∃ ds, Vals dvs ds ∧ Binds K fd ps ds)
    (hd : ∀ (cd : Value) (A : Around) (outer : List Env) (s : Shared) (H : Hp) (E : XK), (∃ oc od osl, K.lookup f = some ⟨oc, od, .func fd, osl⟩ ∧ fd.code = cd) → Room k (A.deeper (envOfC qual scope s.heap.objs.size f cd)) → DSs (zCx P w K mg base N qual scope f cd A outer s H E) (zW E T TL) body m) :
    OkAD P w K mg base ⟨⟨mg, K⟩, T, TL⟩ (k + 1) x dvs (mA ps.length N.length m) := by
  obtain ⟨dsv, hv, hb⟩ := hb
  refine ⟨f, fd, ps, dsv, hx, F.kp, hv, hb, ?_⟩
  obtain ⟨oc, od, dV, kV, doc, pm, an, cdv, ct, osl, rfl, lk, hcd, _, _⟩ := F.ex
  refine fn_of lk hcd S (fun vs H Q E ⟨c, ds, h1, h2, h3, h4, h5, h6, h7⟩ => ?_) fun A outer s H vs Q E hr ⟨c, ds, h1, h2, h3, h4, h5, h6, h7⟩ => ?_
  · unfold mA at h7
    split at h7
    · rename_i hl; rw [h5.length]; exact hl
    · exact h7.elim
  · refine ⟨_, hd cdv A outer s H E ⟨oc, od, osl, lk, rfl⟩ hr, ?_⟩
    unfold mA at h7
    split at h7
    · exact ⟨c, startD N.length ds, [], h1, h2, start_rel h4 h5, h7.start⟩
    · exact h7.elim
end
end Zl

set_option Elab.async false
set_option linter.all false
set_option maxRecDepth 100000
set_option maxHeartbeats 2000000
/-! Layer Z, part 16: smaller forms. -/
namespace Zl
open PySem PySem.Spec PyProof.Rows L2
section
variable {X : Cx} {W : WZ} {a b e : Expr} {fa fb f g : ZE} {p pos : Pos}
theorem dt_isN {j pos'} (ha : DE X W a fa) : DT X W (.Compare a [.Is] [.Constant .none j pos'] pos) (zUn (oIsN false) fa) := (pt_cmp (pc_isN ha) rfl).imp fun σ H Q ⟨c, vars, st, hw, hm, rel, q⟩ =>
  ⟨c, vars, st, hw, hm, rel, (PostE.bind (PostT.ofE q)).imp fun v H1 ⟨c1, d, st1, l1, r1, rv, p1⟩ => by
    obtain ⟨_, b, _, _, _, e, p⟩ := p1 (.bl (dNon d)) c1 H1 (Wd.le.refl _) r1 (.bl _)
    rw [rv.non_iff]
    exact ⟨b, e, p⟩⟩
theorem dt_notN {j pos'} (ha : DE X W a fa) : DT X W (.Compare a [.IsNot] [.Constant .none j pos'] pos) (zUn (oIsN true) fa) := (pt_cmp (pc_notN ha) rfl).imp fun σ H Q ⟨c, vars, st, hw, hm, rel, q⟩ =>
  ⟨c, vars, st, hw, hm, rel, (PostE.bind (PostT.ofE q)).imp fun v H1 ⟨c1, d, st1, l1, r1, rv, p1⟩ => by
    obtain ⟨_, b, _, _, _, e, p⟩ := p1 (.bl (!dNon d)) c1 H1 (Wd.le.refl _) r1 (.bl _)
    rw [rv.non_iff]
    exact ⟨b, e, p⟩⟩
def oNeg : D → Sto → R := fun x st => match x with
  | .int i => .ok (.int (-i)) st
  | _ => .stuck
theorem oNeg_q : qOp1 oNeg = oNeg := by
  funext x st
  unfold qOp1 oNeg
  cases x <;> rfl
theorem uz_neg : UnZ X (unaryOp .USub) oNeg := fun pins s σ H x v Q I rx ⟨c, vars, st, σ', dx, hw, hm, rel, r1, q⟩ => by
  unfold oNeg at q
  split at q
  · rename_i i
    cases r1
    exact un_neg pins s σ H _ v Q I rx ⟨i, rfl, q _ c H (Wd.le.refl _) rel (.int _)⟩
  · exact q.elim
theorem de_neg (ha : DE X W a fa) : DE X W (.UnaryOp .USub a pos) (zUn oNeg fa) := by
  have h := de_un (pos := pos) (g := oNeg) (by rw [oNeg_q]; exact uz_neg (X := X)) ha
  rw [oNeg_q] at h
  exact h
/-- tuple(range(a, b)) -/
def oTupRg2 : Op2 := fun x y st => match x, y with
  | .int i, .int j => if decide (-(2 ^ 24) ≤ i) && decide (i ≤ 2 ^ 24) && decide (-(2 ^ 24) ≤ j) && decide (j ≤ 2 ^ 23) && decide (j - i ≤ 2 ^ 24) then .ok (.tup (rng i (j - i).toNat)) st else .stuck
  | _, _ => .stuck
theorem de_tupRg2 {p3 pos3 : Pos} (hc : X.calm = true) (hm1 : X.mg "tuple" = none) (hm2 : X.mg "range" = none) (h : DE X W a fa) (h2 : DE X W b fb) (hg : Gl X "tuple" := by rfl) (hg2 : Gl X "range" := by rfl) (he : starEach [.Call (.Name "range" p3) [a, b] [] pos3] X.env = (false, eval (.Call (.Name "range" p3) [a, b] [] pos3) X.env) :: starEach [] X.env := by rfl)
    (na : starEach [a, b] X.env = (false, eval a X.env) :: starEach [b] X.env := by rfl) (nb : starEach [b] X.env = (false, eval b X.env) :: starEach [] X.env := by rfl) (hp : (backTo pos3 (starEach [b] X.env)).any (·.1) = false := by rfl) :
    DE X W (.Call (.Name "tuple" p) [.Call (.Name "range" p3) [a, b] [] pos3] [] pos) (zBin oTupRg2 fa fb) :=
  (pe_tupRg hc hg hm1 (prg_2 hg2 hm2 h h2 na nb hp) he).imp fun σ H Q ⟨c, vars, st, hw, hm, rel, q⟩ =>
    ⟨c, vars, st, hw, hm, rel, (PostE.bind q).imp fun v H1 ⟨c1, d, st1, l1, r1, rv, p1⟩ => ⟨c1, vars, st1, l1.w.trans hw, l1.md.trans hm, r1, (PostE.bind p1).imp fun u H2 ⟨c2, d2, st2, l2, r2, rv2, p2⟩ => by
      cases d with
      | int i =>
        cases d2 with
        | int j =>
          unfold oTupRg2 at p2
          dsimp only at p2
          split at p2
          · rename_i hz
            cases rv; cases rv2
            simp only [Bool.and_eq_true, decide_eq_true_eq] at hz
            obtain ⟨⟨⟨⟨h1, h2⟩, h3⟩, h4⟩, h5⟩ := hz
            refine ⟨i, j, rfl, rfl, ⟨by omega, by omega, by omega, by omega, by omega⟩, fun q hq => ?_⟩
            refine new_tup r2 ?_ hq p2
            rw [rgV_rng]
            exact rvs_rng
          · exact p2.elim
        | _ => exact (show False from p2).elim
      | _ => cases d2 <;> exact (show False from p2).elim⟩⟩
end
end Zl

set_option Elab.async false
set_option linter.all false
set_option maxRecDepth 100000
set_option maxHeartbeats 2000000
/-! Layer Z, part 17: what the printed derivations use. -/
namespace Zl
open PySem PySem.Spec PyProof.Rows L2
theorem dss_never {X : Cx} {W : WZ} {s : List Stmt} : DSs X W s (fun _ _ => .stuck) := ⟨fun pins s σ H D I ⟨c, vars, st, hw, hm, rel, q⟩ => q.elim⟩
theorem mA_never {n N : Nat} : mA n N (fun _ _ => .stuck) = fun _ => .stuck := by
  funext ds
  unfold mA
  split <;> rfl
theorem Zx.u65 {X : Cx} {W : WZ} {k : Nat} (z : Zx X W k) : X.A.units + 65 < cLine := by have := z.room.un; omega
section
variable {P : Program} {w : World} {K : PySem.W.Frag} {mg : Str → Option Value} {base : Heap} {md : Md} {j k : Nat} {x : Str}
theorem okA_never {n N : Nat} (h : OkA P w K mg base md j x (mA n N fun _ _ => .stuck)) (e : j ≤ k) : OkA P w K mg base md k x (fun _ => .stuck) := by
  rw [mA_never] at h
  exact h.mono e
theorem okAD_never {n N : Nat} {dvs : List V} (h : OkAD P w K mg base md j x dvs (mA n N fun _ _ => .stuck)) (e : j ≤ k) : OkAD P w K mg base md k x dvs (fun _ => .stuck) := by
  rw [mA_never] at h
  exact h.mono e
end
end Zl

set_option Elab.async false
set_option linter.all false
set_option maxRecDepth 100000
set_option maxHeartbeats 2000000
/-! Layer Z, part 18: a law's end. -/
namespace Zl
open PySem PySem.Spec PyProof.Rows L2
section
variable {P : Program} {w : World} {K : PySem.W.Frag} {mg : Str → Option Value} {base : Heap} {N : List Str} {f : Addr} {T : List Addr} {TL : List (Addr × Str)} {k : Nat}
/-- the promise itself -/
theorem fnA_of {x qual : Str} {params : Arguments} {body : List Stmt} {scope : Scope} {fd : FuncData} {ps : List Str} {m : ZS} (F : FunD K x qual params body scope [] [] f fd) (S : FnScope N ps scope)
    (hd : ∀ (cd : Value) (A : Around) (outer : List Env) (s : Shared) (H : Hp) (E : XK), (∃ oc od osl, K.lookup f = some ⟨oc, od, .func fd, osl⟩ ∧ fd.code = cd) → Room k (A.deeper (envOfC qual scope s.heap.objs.size f cd)) → DSs (zCx P w K mg base N qual scope f cd A outer s H E) (zW E T TL) body m) :
    FnOk P w K mg base (L2.CX P w) (k + 1) f fd ps (spA w ⟨⟨mg, K⟩, T, TL⟩ (mA ps.length N.length m)) := by
  obtain ⟨oc, od, dV, kV, doc, pm, an, cdv, ct, osl, rfl, lk, hcd, _, _⟩ := F.ex
  refine fn_of lk hcd S (fun vs H Q E ⟨c, ds, h1, h2, h3, h4, h5, h6, h7⟩ => ?_) fun A outer s H vs Q E hr ⟨c, ds, h1, h2, h3, h4, h5, h6, h7⟩ => ?_
  · unfold mA at h7
    split at h7
    · rename_i hl; rw [h5.length]; exact hl
    · exact h7.elim
  · refine ⟨_, hd cdv A outer s H E ⟨oc, od, osl, lk, rfl⟩ hr, ?_⟩
    unfold mA at h7
    split at h7
    · exact ⟨c, startD N.length ds, [], h1, h2, start_rel h4 h5, h7.start⟩
    · exact h7.elim
end
/-- a def's code object, its table -/
theorem tab_of {K : PySem.W.Frag} {p : Str × Option Str} {x qual : Str} {params : Arguments} {body : List Stmt} {scope : Scope} {dvs : List V} {kws : List (Str × V)} {fd fd' : FuncData} {oc : Value} {od : Option Addr} {osl : Array (Option Value)}
    (F : FunD K x qual params body scope dvs kws (He.fAd K p) fd) (lk : K.lookup (He.fAd K p) = some ⟨oc, od, .func fd', osl⟩) : fd'.code = .ref (He.cT K p).1 := by
  obtain ⟨oc2, od2, dV, kV, doc, pm, an, cdv, ct, osl2, rfl, lk2, hcd, _, _⟩ := F.ex
  rw [lk] at lk2
  cases lk2
  obtain ⟨c, rfl⟩ := He.codeIn_ref hcd
  show (Value.ref c : Value) = .ref (He.codeOf K p)
  rw [He.codeOf_eq lk rfl]
/-- the start: the script, the tables -/
theorem law_start {w : World} {K : PySem.W.Frag} {mg : Str → Option Value} {g : FA} {cs : List (Addr × Addr)} {H : Hp} {a : Addr} {ns : List Int} (nT : ∀ p ∈ cs, K.lookup p.2 = none) (hT : ∀ p ∈ cs, H p.2 = some (.tbl #[])) (hS : SqL K H a (ns.map V.int))
    (hg : g [.scr (ns.map D.int)] = .ok (.bl true)) : spA w ⟨⟨mg, K⟩, cs.map (·.2), []⟩ g [.ref a] H (fun v _ => v = .bl true) fun _ _ _ => False := by
  have key : ∃ G : Hp, Ex G H ∧ SqL K G a (ns.map V.int) ∧ ∀ p ∈ cs, G p.2 = none := by
    have one : ∀ o, H a = some o → (∀ ps, o ≠ .tbl ps) → ∃ G : Hp, Ex G H ∧ G a = some o ∧ ∀ p ∈ cs, G p.2 = none := fun o ho nt => by
      refine ⟨upd (fun _ => none) a o, fun b u e => ?_, upd_same, fun p hp => ?_⟩
      · by_cases q : b = a
        · subst q; rw [upd_same] at e; cases e; exact ho
        · rw [upd_ne q] at e; cases e
      · rw [upd_ne fun z => ?_]
        have := hT p hp
        rw [z, ho] at this
        exact nt _ (Option.some.inj this)
    rcases hS with (h | ⟨o, h⟩) | h
    · obtain ⟨G, g1, g2, g3⟩ := one _ h (fun ps z => by cases z)
      exact ⟨G, g1, .inl (.inl g2), g3⟩
    · obtain ⟨G, g1, g2, g3⟩ := one _ h (fun ps z => by cases z)
      exact ⟨G, g1, .inl (.inr ⟨o, g2⟩), g3⟩
    · exact ⟨fun _ => none, fun b u e => (by cases e), .inr h, fun _ _ => rfl⟩
  obtain ⟨G, g1, g2, g3⟩ := key
  refine ⟨⟨w, ⟨⟨mg, K⟩, cs.map (·.2), []⟩, G, fun _ => none, []⟩, [.scr (ns.map D.int)], rfl, rfl, rfl, ⟨g1, fun a o e => (by cases e), fun a o e => rfl, rfl, List.nodup_nil, fun n d e => (by simp at e), fun n d e => (by simp at e), fun q hq => ?_, fun q hq => (by cases hq), fun q hq => (by cases hq)⟩, .cons (.scr g2 (RVs.ints ns)) .nil, ?_, ?_⟩
  · obtain ⟨p, hp, rfl⟩ := List.mem_map.mp hq
    exact ⟨g3 p hp, rfl, by simp, #[], hT p hp, by first | trivial | rfl | decide⟩
  · have : ∀ l : List Int, D.pures (l.map D.int) = true := fun l => by induction l <;> simp_all [D.pures, D.pure]
    simp [D.pures, D.pure, this]
  · rw [hg]
    intro v c' st' H' hd l r rv
    cases rv
    rfl
end Zl

set_option Elab.async false
set_option linter.all false
set_option maxRecDepth 100000
set_option maxHeartbeats 2000000
/-! Layer Z, part 19: running mirrors by simp. -/
namespace Zl
open PySem PySem.Spec PyProof.Rows L2
section
variable {d x y : D} {ds : List D} {st : Sto} {vars : Vars} {i j : Int} {f g h : ZE} {l l' : ZL} {b : Bool}
@[simp] theorem bind_ok {k : D → Sto → R} : (R.ok d st).bind k = k d st := rfl
@[simp] theorem bind_st {k : D → Sto → R} : R.stuck.bind k = .stuck := rfl
@[simp] theorem bindL_ok {k : D → Sto → Rl} : (R.ok d st).bindL k = k d st := rfl
@[simp] theorem lbind_ok {k : List D → Sto → R} : (Rl.ok ds st).bind k = k ds st := rfl
@[simp] theorem lbindL_ok {k : List D → Sto → Rl} : (Rl.ok ds st).bindL k = k ds st := rfl
@[simp] theorem bindS_ok {k : D → Sto → Rs} : (R.ok d st).bindS vars k = k d st := rfl
@[simp] theorem sbind_nx {k : Vars → Sto → Rs} : (Rs.nx vars st).bind k = k vars st := rfl
@[simp] theorem sbind_ret {k : Vars → Sto → Rs} : (Rs.ret d st).bind k = .ret d st := rfl
@[simp] theorem sbind_ct {k : Vars → Sto → Rs} : (Rs.ct vars st).bind k = .ct vars st := rfl
@[simp] theorem sbind_bk {k : Vars → Sto → Rs} : (Rs.bk vars st).bind k = .bk vars st := rfl
@[simp] theorem sbind_st {k : Vars → Sto → Rs} : Rs.stuck.bind k = .stuck := rfl
@[simp] theorem tst_ok {k : Bool → Sto → R} : (R.ok (.bl b) st).tst k = k b st := rfl
@[simp] theorem tstL_ok {k : Bool → Sto → Rl} : (R.ok (.bl b) st).tstL k = k b st := rfl
@[simp] theorem tstS_ok {k : Bool → Sto → Rs} : (R.ok (.bl b) st).tstS vars k = k b st := rfl
@[simp] theorem quiet_ok : (R.ok d st).quiet = .ok d st := rfl
@[simp] theorem quiet_st : R.stuck.quiet = .stuck := rfl
@[simp] theorem asL_ok {k : D → Option (List D)} : (R.ok d st).asL k = (match k d with | some l => .ok l st | none => .stuck) := rfl
@[simp] theorem rasL_ok {k : List D → Option (List D)} : (Rl.ok ds st).asL k = (match k ds with | some l => .ok l st | none => .stuck) := rfl
theorem zVar_s {i : Nat} : zVar i vars st = (match vars[i]? with | some (some d) => .ok d st | _ => .stuck) := rfl
@[simp] theorem zC_s : zC d vars st = .ok d st := rfl
@[simp] theorem zFrz_s : zFrz f vars st = (f vars st).bind frz := rfl
@[simp] theorem zNil_s : zNil vars st = .ok [] st := rfl
@[simp] theorem zCons_s : zCons f l vars st = (f vars st).bindL fun d st => (l vars st).bindL fun ds st => .ok (d :: ds) st := rfl
@[simp] theorem zTup_s : zTup l vars st = (l vars st).bind fun ds st => if ds.length ≤ sizeLine then .ok (.tup ds) st else .stuck := rfl
@[simp] theorem zLst_s {m : Bool} : zLst m l vars st = (l vars st).bind fun ds st => if ds.length ≤ sizeLine then newD m (.lst ds) st else .stuck := rfl
@[simp] theorem zBin_s {op : Op2} : zBin op f g vars st = (f vars st).bind fun x st => (g vars st).bind fun y st => op x y st := rfl
@[simp] theorem zUn_s {op : D → Sto → R} : zUn op f vars st = (f vars st).bind op := rfl
@[simp] theorem zApp_s {op : OpN} : zApp op l vars st = (l vars st).bind op := rfl
@[simp] theorem qOp_s {op : Op2} : qOp op x y st = (op x y st).quiet := rfl
@[simp] theorem qOp1_s {op : D → Sto → R} : qOp1 op x st = (op x st).quiet := rfl
@[simp] theorem qOpN_s {op : OpN} : qOpN op ds st = (op ds st).quiet := rfl
@[simp] theorem zAnd_s : zAnd f g vars st = (f vars st).tst fun b st => if b = true then g vars st else .ok (.bl false) st := rfl
@[simp] theorem zOr_s : zOr f g vars st = (f vars st).tst fun b st => if b = true then .ok (.bl true) st else g vars st := rfl
@[simp] theorem zNot_s : zNot f vars st = (f vars st).tst fun b st => .ok (.bl (!b)) st := rfl
@[simp] theorem zIf_s : zIf f g h vars st = (f vars st).tst fun b st => if b = true then g vars st else h vars st := rfl
@[simp] theorem zChain_s {o1 o2 : Op2} : zChain o1 o2 f g h vars st = (f vars st).bind fun x st => (g vars st).bind fun y st => (qOp o1 x y st).tst fun b st => if b = true then (h vars st).bind fun z st => qOp o2 y z st else .ok (.bl false) st := rfl
@[simp] theorem sSeq_s {f g : ZS} : sSeq f g vars st = (f vars st).bind g := rfl
@[simp] theorem sNext_s : sNext vars st = .nx vars st := rfl
@[simp] theorem sDrop_s : sDrop f vars st = (f vars st).bindS vars fun _ st => .nx vars st := rfl
@[simp] theorem sRet_s : sRet f vars st = (f vars st).bindS vars fun d st => .ret d st := rfl
@[simp] theorem sRetN_s : sRetN vars st = .ret .non st := rfl
@[simp] theorem sAsg_s {g : ZG} : sAsg f g vars st = (f vars st).bindS vars fun d st => match g d vars with | some vars => .nx vars st | none => .stuck := rfl
@[simp] theorem sIf_s {a b : ZS} : sIf f a b vars st = (f vars st).tstS vars fun c st => if c = true then a vars st else b vars st := rfl
@[simp] theorem sBrk_s : sBrk vars st = .bk vars st := rfl
@[simp] theorem sCnt_s : sCnt vars st = .ct vars st := rfl
@[simp] theorem gN_s {i : Nat} : gN i d vars = some (vars.set i (some d)) := rfl
@[simp] theorem gT_s {gs : ZGs} : gT gs (.tup ds) vars = gs ds vars := rfl
@[simp] theorem gNil_s : gNilZ [] vars = some vars := rfl
@[simp] theorem gCons_s {g : ZG} {gs : ZGs} : gConsZ g gs (d :: ds) vars = (match g d vars with | some vars => gs ds vars | none => none) := rfl
@[simp] theorem sPar_s {i j : Nat} : sPar i j l vars st = (match l vars st with | .ok [a, b] st => .nx ((vars.set i (some a)).set j (some b)) st | .rz x st => .rz x vars st | _ => .stuck) := rfl
@[simp] theorem sSub_s {op : Op3} : sSub op f g h vars st = (f vars st).bindS vars fun v st => (g vars st).bindS vars fun o st => (h vars st).bindS vars fun i st => match op o i v st with | some st => .nx vars st | none => .stuck := rfl
@[simp] theorem zCallB_s {g : FB} : zCallB g l vars st = (l vars st).bind g := rfl
@[simp] theorem oAddI_s : oAddI (.int i) (.int j) st = .ok (.int (i + j)) st := rfl
@[simp] theorem oSubI_s : oSubI (.int i) (.int j) st = .ok (.int (i - j)) st := rfl
@[simp] theorem oLtI_s : oLtI (.int i) (.int j) st = .ok (.bl (decide (i < j))) st := rfl
@[simp] theorem oLeI_s : oLeI (.int i) (.int j) st = .ok (.bl (decide (i ≤ j))) st := rfl
@[simp] theorem oGtI_s : oGtI (.int i) (.int j) st = .ok (.bl (decide (j < i))) st := rfl
@[simp] theorem oGeI_s : oGeI (.int i) (.int j) st = .ok (.bl (decide (j ≤ i))) st := rfl
@[simp] theorem oAdd_s {m : Bool} : oAdd m (.int i) (.int j) st = .ok (.int (i + j)) st := rfl
theorem oMul_s : oMul (.int i) (.int j) st = if cMul i j = true then .ok (.int (i * j)) st else .stuck := by
  unfold oMul orO oMulI oII
  dsimp only
  by_cases h : cMul i j = true
  · rw [if_pos h]
  · rw [if_neg h]; rfl
theorem oMod_s : oModI (.int i) (.int j) st = if 0 < j then .ok (.int (i % j)) st else .stuck := by
  unfold oModI oII cMod
  dsimp only
  by_cases h : 0 < j <;> simp [h]
theorem oDiv_s : oDivI (.int i) (.int j) st = if 0 < j ∧ j < 1073741824 then .ok (.int (i / j)) st else .stuck := by
  unfold oDivI oII cDiv
  dsimp only
  by_cases h : 0 < j ∧ j < 1073741824 <;> simp [h]
@[simp] theorem oInt_s : oInt [.int i] st = .ok (.int i) st := rfl
@[simp] theorem der_int : der st (.int i) = .int i := rfl
@[simp] theorem der_non : der st .non = .non := rfl
@[simp] theorem der_bl : der st (.bl b) = .bl b := rfl
@[simp] theorem der_str_s {z : Str} : der st (.str z) = .str z := rfl
@[simp] theorem der_tup_s : der st (.tup ds) = .tup ds := rfl
@[simp] theorem der_lst_s : der st (.lst ds) = .lst ds := rfl
@[simp] theorem der_scr_s : der st (.scr ds) = .scr ds := rfl
@[simp] theorem der_loc0 {c : Bool × D} {r : Sto} : der (c :: r) (.loc 0) = c.2 := rfl
@[simp] theorem frz_int : frz (.int i) st = .ok (.int i) st := rfl
@[simp] theorem frz_tup : frz (.tup ds) st = .ok (.tup ds) st := rfl
@[simp] theorem frz_lst : frz (.lst ds) st = .ok (.lst ds) st := rfl
@[simp] theorem frz_bl : frz (.bl b) st = .ok (.bl b) st := rfl
@[simp] theorem frz_non : frz .non st = .ok .non st := rfl
@[simp] theorem newD_f : newD false d st = .ok d st := rfl
@[simp] theorem zYes_s : zYes vars st = .ok (.bl true) st := rfl
@[simp] theorem zIt_s : zIt f vars st = ((f vars st).bind frz).asL items := rfl
@[simp] theorem zEnum_s : zEnum f vars st = ((f vars st).bind frz).asL enums := rfl
@[simp] theorem zItems_s : zItems f vars st = ((f vars st).bind frz).asL dits := rfl
@[simp] theorem zRng1_s : zRng1 l vars st = (l vars st).asL rngs1 := rfl
@[simp] theorem zRng2_s : zRng2 l vars st = (l vars st).asL rngs2 := rfl
@[simp] theorem zPart_n {k : Option Int → Sto → R} : zPart none vars st k = k none st := rfl
@[simp] theorem zPart_s {k : Option Int → Sto → R} : zPart (some f) vars st k = (f vars st).bind fun d st => match d with | .int i => k (some i) st | _ => .stuck := rfl
@[simp] theorem zSl_s {m : Bool} {lo hi : Option ZE} : zSl m f lo hi vars st = (f vars st).bind fun x st => zPart lo vars st fun i st => zPart hi vars st fun j st => oSl m x i j st := rfl
@[simp] theorem items_lst : items (.lst ds) = some ds := rfl
@[simp] theorem items_tup : items (.tup ds) = some ds := rfl
@[simp] theorem items_dct {ks vs : List D} : items (.dct ks vs) = some ks := rfl
@[simp] theorem oSl_tup {m : Bool} {lo hi : Option Int} : oSl m (.tup ds) lo hi st = .ok (.tup (cutD ds lo hi)) st := rfl
@[simp] theorem oTuple_lst : oTuple [.lst ds] st = .ok (.tup ds) st := rfl
@[simp] theorem oTuple_tup : oTuple [.tup ds] st = .ok (.tup ds) st := rfl
end
theorem lc_pure {g : ZG} {f : ZE} {v0 : Vars} {st : Sto} {F : D → D} : ∀ {ds : List D}, (∀ d ∈ ds, ∃ v1, g d v0 = some v1 ∧ f v1 st = .ok (F d) st) → zLcL g zYes f v0 ds st = .ok (ds.map F) st
  | [], _ => rfl
  | d :: ds, h => by
    obtain ⟨v1, h1, h2⟩ := h d List.mem_cons_self
    have ih := lc_pure (ds := ds) (g := g) (f := f) (v0 := v0) (st := st) (F := F) fun d hd => h d (List.mem_cons_of_mem _ hd)
    unfold zLcL
    rw [h1]
    simp [h2, ih]
theorem lc_if {g : ZG} {t f : ZE} {v0 : Vars} {st : Sto} {p : D → Bool} {F : D → D} : ∀ {ds : List D}, (∀ d ∈ ds, ∃ v1, g d v0 = some v1 ∧ t v1 st = .ok (.bl (p d)) st ∧ (p d = true → f v1 st = .ok (F d) st)) → zLcL g t f v0 ds st = .ok ((ds.filter p).map F) st
  | [], _ => rfl
  | d :: ds, h => by
    obtain ⟨v1, h1, h2, h3⟩ := h d List.mem_cons_self
    have ih := lc_if (ds := ds) (g := g) (t := t) (f := f) (v0 := v0) (st := st) (p := p) (F := F) fun d hd => h d (List.mem_cons_of_mem _ hd)
    unfold zLcL
    rw [h1]
    cases hp : p d with
    | true => simp [h2, h3 hp, ih, hp]
    | false => simp [h2, ih, hp]
theorem zLc_ok {fi : ZL} {g : ZG} {t f : ZE} {own : List Nat} {vars : Vars} {st st1 st2 : Sto} {is ys : List D} (h1 : fi vars st = .ok is st1) (h2 : zLcL g t f (wipeD vars own) is st1 = .ok ys st2) (h3 : ys.length ≤ sizeLine) : zLc false fi g t f own vars st = .ok (.lst ys) st2 := by
  unfold zLc
  rw [h1]
  dsimp only
  rw [h2]
  dsimp only
  rw [if_pos h3]
  rfl
theorem frz_pure {d : D} {st : Sto} (h : D.pure d = true) : frz d st = .ok d st := by
  cases d with
  | loc n => simp [D.pure] at h
  | _ => rfl
theorem frzs_pure {st : Sto} : ∀ {ds : List D}, D.pures ds = true → frzs ds st = .ok ds st
  | [], _ => rfl
  | d :: ds, h => by
    simp only [D.pures, Bool.and_eq_true] at h
    unfold frzs
    rw [frz_pure h.1]
    dsimp only
    rw [frzs_pure h.2]
theorem callA_ok {g : FA} {l : ZL} {vars : Vars} {st st1 : Sto} {ds : List D} {d : D} (h1 : l vars st = .ok ds st1) (hp : D.pures ds = true) (hg : g ds = .ok d) : zCallA g l vars st = .ok d st1 := by
  unfold zCallA
  rw [h1]
  simp [frzs_pure hp, hp, hg]
theorem pures_map {α : Type} {F : α → D} (h : ∀ a, D.pure (F a) = true) : ∀ l : List α, D.pures (l.map F) = true
  | [] => rfl
  | a :: l => by simp [D.pures, h a, pures_map h l]
/-- a loop, by its invariant -/
theorem for_inv {α S : Type} {T : α → D} {g : ZG} {b : ZS} {I : List α → S → Vars → Sto → Prop} {F : S → α → S}
    (k : ∀ s a r vars st, I (a :: r) s vars st → ∃ v1, g (T a) vars = some v1 ∧ ∃ v2 st2, (b v1 st = .nx v2 st2 ∨ b v1 st = .ct v2 st2) ∧ I r (F s a) v2 st2) :
    ∀ (ls : List α) (s : S) (vars : Vars) (st : Sto), I ls s vars st → ∃ v2 st2, zForL g b (ls.map T) vars st = .nx v2 st2 ∧ I [] (ls.foldl F s) v2 st2
  | [], s, vars, st, h => ⟨vars, st, rfl, h⟩
  | a :: ls, s, vars, st, h => by
    obtain ⟨v1, e1, v2, st2, e2, h2⟩ := k s a ls vars st h
    obtain ⟨v3, st3, e3, h3⟩ := for_inv k ls (F s a) v2 st2 h2
    refine ⟨v3, st3, ?_, h3⟩
    rw [List.map_cons]
    unfold zForL
    rw [e1]
    dsimp only
    rcases e2 with e2 | e2 <;> rw [e2] <;> exact e3
def foldE {α S : Type} (F : S → Nat → α → S) : S → Nat → List α → S
  | s, _, [] => s
  | s, n, a :: l => foldE F (F s n a) (n + 1) l
theorem for_enum {α S : Type} {T : α → D} {g : ZG} {b : ZS} {I : Nat → List α → S → Vars → Sto → Prop} {F : S → Nat → α → S}
    (k : ∀ s (n : Nat) a r vars st, I n (a :: r) s vars st → ∃ v1, g (.tup [.int (n : Int), T a]) vars = some v1 ∧ ∃ v2 st2, (b v1 st = .nx v2 st2 ∨ b v1 st = .ct v2 st2) ∧ I (n + 1) r (F s n a) v2 st2) :
    ∀ (ls : List α) (n : Nat) (s : S) (vars : Vars) (st : Sto), I n ls s vars st → ∃ v2 st2, zForL g b (pairs n (ls.map T)) vars st = .nx v2 st2 ∧ I (n + ls.length) [] (foldE F s n ls) v2 st2
  | [], n, s, vars, st, h => ⟨vars, st, rfl, h⟩
  | a :: ls, n, s, vars, st, h => by
    obtain ⟨v1, e1, v2, st2, e2, h2⟩ := k s n a ls vars st h
    obtain ⟨v3, st3, e3, h3⟩ := for_enum k ls (n + 1) (F s n a) v2 st2 h2
    refine ⟨v3, st3, ?_, by rw [List.length_cons, show n + (ls.length + 1) = n + 1 + ls.length by omega]; exact h3⟩
    rw [List.map_cons]
    show zForL g b (.tup [.int n, T a] :: pairs (n + 1) (ls.map T)) vars st = _
    unfold zForL
    rw [e1]
    dsimp only
    rcases e2 with e2 | e2 <;> rw [e2] <;> exact e3
/-- a comprehension whose elements change the store -/
theorem lc_inv {g : ZG} {f : ZE} {v0 : Vars} {I : Sto → Prop} {J : D → Prop} (k : ∀ d st, I st → ∃ v1, g d v0 = some v1 ∧ ∃ y st', f v1 st = .ok y st' ∧ J y ∧ I st') :
    ∀ (ds : List D) (st : Sto), I st → ∃ ys st', zLcL g zYes f v0 ds st = .ok ys st' ∧ I st' ∧ (∀ y ∈ ys, J y) ∧ ys.length = ds.length
  | [], st, h => ⟨[], st, rfl, h, by simp, rfl⟩
  | d :: ds, st, h => by
    obtain ⟨v1, e1, y, st1, e2, j, h1⟩ := k d st h
    obtain ⟨ys, st2, e3, h2, js, hl⟩ := lc_inv k ds st1 h1
    refine ⟨y :: ys, st2, ?_, h2, fun z hz => ?_, by simp [hl]⟩
    · unfold zLcL
      rw [e1]
      simp [e2, e3]
    · rcases List.mem_cons.mp hz with rfl | hz
      · exact j
      · exact js z hz
theorem map_of {α : Type} {T : α → D} {P : α → Prop} : ∀ {ys : List D}, (∀ y ∈ ys, ∃ a, P a ∧ y = T a) → ∃ l : List α, ys = l.map T ∧ ∀ a ∈ l, P a
  | [], _ => ⟨[], rfl, by simp⟩
  | y :: ys, h => by
    obtain ⟨a, ha, rfl⟩ := h y List.mem_cons_self
    obtain ⟨l, rfl, hl⟩ := map_of (ys := ys) fun z hz => h z (List.mem_cons_of_mem _ hz)
    exact ⟨a :: l, rfl, fun b hb => by
      rcases List.mem_cons.mp hb with rfl | hb
      · exact ha
      · exact hl b hb⟩
/-- [F c for c in range(lo, lo + n) if t], t with the store -/
theorem lc_some {g : ZG} {t f : ZE} {v0 : Vars} {I : Sto → Prop} {F : Nat → D} {hi : Nat}
    (k : ∀ (c : Nat) st, c < hi → I st → ∃ v1, g (.int (c : Int)) v0 = some v1 ∧ ∃ b st', t v1 st = .ok (.bl b) st' ∧ I st' ∧ f v1 st' = .ok (F c) st') :
    ∀ (n lo : Nat) (st : Sto), I st → lo + n ≤ hi → ∃ (cs : List Nat) (st' : Sto), zLcL g t f v0 (rng (lo : Int) n) st = .ok (cs.map F) st' ∧ I st' ∧ cs.Pairwise (· < ·) ∧ ∀ c ∈ cs, lo ≤ c ∧ c < lo + n
  | 0, lo, st, h, _ => ⟨[], st, rfl, h, List.Pairwise.nil, by simp⟩
  | n + 1, lo, st, h, hb => by
    obtain ⟨v1, e1, b, st1, e2, h1, e3⟩ := k lo st (by omega) h
    obtain ⟨cs, st2, e4, h2, pw, hr⟩ := lc_some k n (lo + 1) st1 h1 (by omega)
    have el : rng (lo : Int) (n + 1) = .int lo :: rng ((lo : Int) + 1) n := rfl
    have e4 : zLcL g t f v0 (rng ((lo : Int) + 1) n) st1 = .ok (cs.map F) st2 := e4
    rw [el]
    unfold zLcL
    rw [e1]
    cases b with
    | true =>
      refine ⟨lo :: cs, st2, by simp [e2, e3, e4], h2, List.pairwise_cons.mpr ⟨fun c hc => by have := hr c hc; omega, pw⟩, fun c hc => ?_⟩
      rcases List.mem_cons.mp hc with rfl | hc
      · omega
      · have := hr c hc; omega
    | false => exact ⟨cs, st2, by simp [e2, e4], h2, pw, fun c hc => by have := hr c hc; omega⟩
mutual
theorem beq_eq : ∀ {a b : D}, D.beq a b = true → a = b
  | .non, b, h => by cases b <;> first | rfl | (simp [D.beq] at h)
  | .bl x, b, h => by cases b <;> simp [D.beq] at h; subst h; rfl
  | .int x, b, h => by cases b <;> simp [D.beq] at h; subst h; rfl
  | .str x, b, h => by cases b <;> simp [D.beq] at h; subst h; rfl
  | .tup x, b, h => by
    cases b with
    | tup y => rw [beqs_eq (a := x) (b := y) (by simpa [D.beq] using h)]
    | _ => simp [D.beq] at h
  | .lst x, b, h => by
    cases b with
    | lst y => rw [beqs_eq (a := x) (b := y) (by simpa [D.beq] using h)]
    | _ => simp [D.beq] at h
  | .dct x y, b, h => by
    cases b with
    | dct u v =>
      simp only [D.beq, Bool.and_eq_true] at h
      rw [beqs_eq (a := x) (b := u) h.1, beqs_eq (a := y) (b := v) h.2]
    | _ => simp [D.beq] at h
  | .scr x, b, h => by
    cases b with
    | scr y => rw [beqs_eq (a := x) (b := y) (by simpa [D.beq] using h)]
    | _ => simp [D.beq] at h
  | .ins x y z, b, h => by
    cases b with
    | ins u v w =>
      simp only [D.beq, Bool.and_eq_true, decide_eq_true_eq] at h
      obtain ⟨⟨rfl, rfl⟩, h3⟩ := h
      rw [beqs_eq (a := z) (b := w) h3]
    | _ => simp [D.beq] at h
  | .loc x, b, h => by cases b <;> simp [D.beq] at h; subst h; rfl
  | .fn x, b, h => by cases b <;> simp [D.beq] at h; subst h; rfl
theorem beqs_eq : ∀ {a b : List D}, D.beqs a b = true → a = b
  | [], [], _ => rfl
  | [], _ :: _, h => by simp [D.beqs] at h
  | _ :: _, [], h => by simp [D.beqs] at h
  | x :: a, y :: b, h => by
    simp only [D.beqs, Bool.and_eq_true] at h
    rw [beq_eq h.1, beqs_eq h.2]
end
def okD : Ro → D → Bool
  | .ok d, e => D.beq d e
  | _, _ => false
theorem okD_eq {r : Ro} {d : D} (h : okD r d = true) : r = .ok d := by
  cases r with
  | ok e => rw [beq_eq (show D.beq e d = true from h)]
  | _ => cases h
end Zl

set_option Elab.async false
set_option linter.all false
set_option maxRecDepth 100000
set_option maxHeartbeats 4000000
/-! Law k05 over layer Z: mirrors, derivations. Printed by gen.py. -/
namespace Nk05
open PySem PySem.Spec PyProof.Rows L2 Zl
def top (i : Nat) : Stmt := PySem.Challenge.pw_lostlines_k05_whole_chances.main.body.getD i (.Pass ⟨0, 0, 0, 0⟩)
abbrev FnP (K : PySem.W.Frag) (x : Str) (st : Stmt) (dv : List V) (f : Addr) (fd : FuncData) : Prop := FunD K x x (defArgs st) (defBody st) (defScope st) dv [] f fd
/-! ### mirrors -/
def m_l_taken : ZS := (sSeq (sIf (zBin (qOp oGtI) (zBin (qOp oIx) (zVar 0) (zC (.int 3))) (zC (.int 0))) (sSeq (sAsg (zBin (qOp oModI) (zApp (qOpN oInt) (zCons (zBin (qOp oIx) (zVar 0) (zC (.int 3))) zNil)) (zVar 1)) (gN 3))
      (sSeq (sSub (or3 oSetL oSetD) (zBin (qOp oDivI) (zBin (qOp oIx) (zVar 0) (zC (.int 3))) (zVar 1)) (zVar 0) (zC (.int 3)))
      (sRet (zVar 3)))) sNext)
      (sSeq (sSub (or3 oSetL oSetD) (zBin (qOp (oAdd false)) (zBin (qOp oIx) (zVar 0) (zC (.int 1))) (zC (.int 1))) (zVar 0) (zC (.int 1)))
      (sSeq (sIf (zBin (qOp oGtI) (zBin (qOp oIx) (zVar 0) (zC (.int 1))) (zApp (qOpN oLen) (zCons (zBin (qOp oIx) (zVar 0) (zC (.int 0))) zNil))) (sSeq (sSub (or3 oSetL oSetD) (zBin (qOp oModI) (zApp (qOpN oInt) (zCons (zBin (qOp (oAdd false)) (zBin (qOp oMul) (zBin (qOp oIx) (zVar 0) (zC (.int 2))) (zC (.int 48271))) (zC (.int 11))) zNil)) (zC (.int 2147483647))) (zVar 0) (zC (.int 2)))
      (sRet (zBin (qOp oModI) (zApp (qOpN oInt) (zCons (zBin (qOp oDivI) (zBin (qOp oIx) (zVar 0) (zC (.int 2))) (zC (.int 7))) zNil)) (zVar 1)))) sNext)
      (sSeq (sAsg (zBin (qOp oIx) (zBin (qOp oIx) (zVar 0) (zC (.int 0))) (zBin (qOp oSubI) (zBin (qOp oIx) (zVar 0) (zC (.int 1))) (zC (.int 1)))) (gN 2))
      (sSeq (sSub (or3 oSetL oSetD) (zBin (qOp oModI) (zApp (qOpN oInt) (zCons (zBin (qOp (oAdd false)) (zBin (qOp (oAdd false)) (zBin (qOp oMul) (zBin (qOp oIx) (zVar 0) (zC (.int 2))) (zC (.int 48271))) (zVar 2)) (zC (.int 11))) zNil)) (zC (.int 2147483647))) (zVar 0) (zC (.int 2)))
      (sSeq (sIf (zBin (qOp oGeI) (zVar 2) (zBin (qOp oPowI) (zC (.int 10)) (zC (.int 18)))) (sSub (or3 oSetL oSetD) (zBin (qOp oDivI) (zVar 2) (zVar 1)) (zVar 0) (zC (.int 3))) sNext)
      (sRet (zBin (qOp oModI) (zApp (qOpN oInt) (zCons (zVar 2) zNil)) (zVar 1)))))))))
def b_l_taken : FB := mB 2 4 (m_l_taken)
def m_l_machine : ZS := (sSeq (sPar 1 2 (zCons (zBin (qOp (oAdd false)) (zC (.int 1)) (zCallB b_l_taken (zCons (zVar 0) (zCons (zC (.int 3)) zNil)))) (zCons (zBin (qOp (oAdd false)) (zC (.int 1)) (zCallB b_l_taken (zCons (zVar 0) (zCons (zC (.int 2)) zNil)))) zNil)))
      (sRet (zTup (zCons (zVar 1) (zCons (zApp (qOpN oTuple) (zCons (zLc false (zRng1 (zCons (zVar 2) zNil)) (gN 3) zYes (zBin (qOp (oAdd false)) (zC (.int 1)) (zCallB b_l_taken (zCons (zVar 0) (zCons (zC (.int 2)) zNil)))) [3]) zNil)) zNil)))))
def b_l_machine : FB := mB 1 4 (m_l_machine)
def m_l_did : ZS := (sSeq (sAsg (zVar 1) (gT (gConsZ (gN 3) (gConsZ (gN 4) (gConsZ (gN 5) gNilZ)))))
      (sSeq (sAsg (zIf (zUn (oIsN false) (zVar 4)) (zBin (qOp oIx) (zVar 0) (zBin (qOp oIx) (zVar 5) (zC (.int 0)))) (zBin (qOp (oAdd false)) (zTup (zCons (zVar 4) zNil)) (zApp (qOpN oTuple) (zCons (zLc false (zIt (zVar 5)) (gN 6) zYes (zBin (qOp oIx) (zVar 0) (zVar 6)) [6]) zNil)))) (gN 2))
      (sRet (zBin (qOp (oAdd false)) (zBin (qOp (oAdd false)) (zSl false (zVar 0) none (some (zVar 3))) (zTup (zCons (zVar 2) zNil))) (zSl false (zVar 0) (some (zBin (qOp (oAdd false)) (zVar 3) (zC (.int 1)))) none)))))
def a_l_did : FA := mA 2 7 (m_l_did)
def m_l_deep (r : FA) : ZS := (sSeq (sIf (zNot (zUn (oIsi pTup) (zVar 0))) (sRet (zC (.int 1))) sNext)
      (sRet (zBin (qOp (oAdd false)) (zC (.int 1)) (zApp (qOpN oMax) (zCons (zLc false (zIt (zSl false (zVar 0) (some (zC (.int 1))) none)) (gN 1) zYes (zCallA r (zCons (zVar 1) zNil)) [1]) zNil)))))
def r_l_deep : Nat → FA
  | 0 => fun _ => .stuck
  | n + 1 => mA 1 2 (m_l_deep (r_l_deep n))
def a_l_deep : FA := r_l_deep 10
def m_l_tame : ZS := (sSeq (sPar 3 4 (zCons (zUn oTupRg (zBin (qOp oIx) (zVar 0) (zC (.int 0)))) (zCons (zTup zNil) zNil)))
      (sSeq (sFor (zIt (zVar 1)) (gN 2) (sSeq (sAsg (zCallA a_l_did (zCons (zVar 3) (zCons (zVar 2) zNil))) (gN 5))
      (sIf (zBin (qOp oLtI) (zApp (qOpN oMax) (zCons (zLc false (zIt (zVar 5)) (gN 6) zYes (zCallA a_l_deep (zCons (zVar 6) zNil)) [6]) zNil)) (zC (.int 6))) (sPar 3 4 (zCons (zVar 5) (zCons (zBin (qOp (oAdd false)) (zVar 4) (zTup (zCons (zVar 2) zNil))) zNil))) sNext)))
      (sRet (zVar 4))))
def a_l_tame : FA := mA 2 7 (m_l_tame)
def m_l_every_line : ZS := (sSeq (sAsg (zVar 0) (gT (gConsZ (gN 3) (gConsZ (gN 4) gNilZ))))
      (sSeq (sAsg (zLst true zNil) (gN 1))
      (sSeq (sFor (zRng1 (zCons (zVar 3) zNil)) (gN 2) (sSeq (sFor (zEnum (zVar 4)) (gT (gConsZ (gN 5) (gConsZ (gN 6) gNilZ))) (sFor (zRng1 (zCons (zVar 3) zNil)) (gN 7) (sIf (zBin (qOp (oEqD false)) (zVar 6) (zC (.int 1))) (sDrop (zMethN isLst (fun o ds st => (oAppend o ds st).quiet) (zVar 1) (zCons (zTup (zCons (zVar 2) (zCons (zVar 5) (zCons (zTup (zCons (zVar 7) zNil)) zNil)))) zNil))) (sAsg (zBin (qOp (oAdd true)) (zVar 1) (zLc false (zRng1 (zCons (zVar 3) zNil)) (gN 8) zYes (zTup (zCons (zVar 2) (zCons (zVar 5) (zCons (zTup (zCons (zVar 7) (zCons (zVar 8) zNil))) zNil)))) [8])) (gN 1)))))
      (sAsg (zBin (qOp (oAdd true)) (zVar 1) (zLc false (zRng1 (zCons (zVar 3) zNil)) (gN 7) (zBin (qOp (oEqD true)) (zVar 7) (zVar 2)) (zTup (zCons (zVar 2) (zCons (zC .non) (zCons (zTup (zCons (zVar 7) zNil)) zNil)))) [7])) (gN 1))))
      (sRet (zVar 1)))))
def a_l_every_line : FA := mA 1 9 (m_l_every_line)
def m_l_pick : ZS := (sRet (zBin (qOp oIx) (zVar 1) (zCallB b_l_taken (zCons (zVar 0) (zCons (zApp (qOpN oLen) (zCons (zVar 1) zNil)) zNil)))))
def b_l_pick : FB := mB 2 2 (m_l_pick)
def m_l_program : ZS := (sSeq (sAsg (zCallA a_l_every_line (zCons (zVar 1) zNil)) (gN 3))
      (sRet (zApp (qOpN oTuple) (zCons (zLc false (zRng1 (zCons (zCallB b_l_taken (zCons (zVar 0) (zCons (zBin (qOp (oAdd false)) (zVar 2) (zC (.int 1))) zNil))) zNil)) (gN 4) zYes (zCallB b_l_pick (zCons (zVar 0) (zCons (zVar 3) zNil))) [4]) zNil))))
def b_l_program : FB := mB 3 5 (m_l_program)
def m_l_ran : ZS := (sSeq (sAsg (zUn oTupRg (zBin (qOp oIx) (zVar 0) (zC (.int 0)))) (gN 3))
      (sSeq (sFor (zEnum (zVar 1)) (gT (gConsZ (gN 4) (gConsZ (gN 5) gNilZ))) (sIf (zBin (qOp (oInD true)) (zVar 4) (zVar 2)) (sSeq (sAsg (zCallA a_l_did (zCons (zVar 3) (zCons (zVar 5) zNil))) (gN 3))
      (sIf (zBin (qOp oGtI) (zApp (qOpN oMax) (zCons (zLc false (zIt (zVar 3)) (gN 6) zYes (zCallA a_l_deep (zCons (zVar 6) zNil)) [6]) zNil)) (zC (.int 8))) (sRet (zC .non)) sNext)) sNext))
      (sRet (zVar 3))))
def a_l_ran : FA := mA 3 7 (m_l_ran)
def m_l_wishes : ZS := (sSeq (sIf (zBin (qOp oGtI) (zCallB b_l_taken (zCons (zVar 0) (zCons (zC (.int 3)) zNil))) (zC (.int 0))) (sSeq (sAsg (zCallA a_l_tame (zCons (zVar 1) (zCons (zCallB b_l_program (zCons (zVar 0) (zCons (zVar 1) (zCons (zC (.int 5)) zNil)))) zNil))) (gN 3))
      (sAsg (zCallA a_l_ran (zCons (zVar 1) (zCons (zVar 3) (zCons (zTup zNil) zNil)))) (gN 4))) (sAsg (zApp (qOpN oTuple) (zCons (zLc false (zRng1 (zCons (zBin (qOp oIx) (zVar 1) (zC (.int 0))) zNil)) (gN 5) zYes (zCallB b_l_pick (zCons (zVar 0) (zCons (zLst false (zCons (zC (.int 0)) (zCons (zBin (qOp (oAdd false)) (zTup (zCons (zC (.int 0)) zNil)) (zBin (qOp oMul) (zTup (zCons (zC (.int 0)) zNil)) (zBin (qOp oIx) (zBin (qOp oIx) (zVar 1) (zC (.int 1))) (zC (.int 0))))) zNil))) zNil))) [5]) zNil)) (gN 4)))
      (sSeq (sAsg (zLc false (zRng1 (zCons (zBin (qOp oIx) (zVar 1) (zC (.int 0))) zNil)) (gN 5) (zBin (qOp oGtI) (zCallB b_l_taken (zCons (zVar 0) (zCons (zC (.int 3)) zNil))) (zC (.int 0))) (zTup (zCons (zVar 5) (zCons (zBin (qOp oIx) (zVar 4) (zVar 5)) zNil))) [5]) (gN 2))
      (sRet (zIf (zBin (qOp (oEqD true)) (zVar 2) (zLst false zNil)) (zApp (qOpN oTuple) (zCons (zVar 2) zNil)) (zTup (zCons (zTup (zCons (zC (.int 0)) (zCons (zBin (qOp oIx) (zVar 4) (zC (.int 0))) zNil))) zNil))))))
def b_l_wishes : FB := mB 2 6 (m_l_wishes)
def m_l_every_loss : ZS := (sSeq (sAsg (zLst false (zCons (zTup zNil) zNil)) (gN 2))
      (sSeq (sFor (zRng1 (zCons (zVar 0) zNil)) (gN 3) (sSeq (sAsg (zLst true zNil) (gN 4))
      (sSeq (sFor (zIt (zVar 2)) (gN 5) (sIf (zBin (qOp (oEqD true)) (zSl false (zVar 5) (some (zUn oNeg (zVar 1))) none) (zBin oTupRg2 (zBin (qOp oSubI) (zVar 3) (zVar 1)) (zVar 3))) (sDrop (zMethN isLst (fun o ds st => (oAppend o ds st).quiet) (zVar 4) (zCons (zBin (qOp (oAdd false)) (zVar 5) (zTup (zCons (zVar 3) zNil))) zNil))) sNext))
      (sAsg (zBin (qOp (oAdd false)) (zVar 2) (zVar 4)) (gN 2)))))
      (sRet (zVar 2))))
def a_l_every_loss : FA := mA 2 6 (m_l_every_loss)
def m_l_alike (r : FA) : ZS := (sSeq (sIf (zUn (oIsi pTL) (zVar 1)) (sSeq (sIf (zOr (zNot (zUn (oIsi pTL) (zVar 0))) (zBin (qOp (oEqD true)) (zUn (oIsi pLst) (zVar 0)) (zUn (oIsi pLst) (zVar 1)))) (sRet (zC (.bl false))) sNext)
      (sSeq (sIf (zBin (qOp (oEqD true)) (zApp (qOpN oLen) (zCons (zVar 0) zNil)) (zApp (qOpN oLen) (zCons (zVar 1) zNil))) (sRet (zC (.bl false))) sNext)
      (sRet (zBin (qOp (oEqD false)) (zLc false (zRng1 (zCons (zApp (qOpN oLen) (zCons (zVar 1) zNil)) zNil)) (gN 2) (zNot (zUn oTru (zCallA r (zCons (zBin (qOp oIx) (zVar 0) (zVar 2)) (zCons (zBin (qOp oIx) (zVar 1) (zVar 2)) zNil))))) (zVar 2) [2]) (zLst false zNil))))) sNext)
      (sSeq (sIf (zOr (zUn (oIsN false) (zVar 1)) (zUn (oIsi pStr) (zVar 1))) (sRet (zAnd (zBin (qOp (oEqD false)) (zVar 0) (zVar 1)) (zBin (qOp (oEqD false)) (zUn (oIsi pStr) (zVar 0)) (zUn (oIsi pStr) (zVar 1))))) sNext)
      (sRet (zAnd (zUn (oIsi pInt) (zVar 0)) (zAnd (zBin (qOp (oEqD false)) (zUn (oIsi pBool) (zVar 0)) (zUn (oIsi pBool) (zVar 1))) (zBin (qOp (oEqD false)) (zVar 0) (zVar 1)))))))
def r_l_alike : Nat → FA
  | 0 => fun _ => .stuck
  | n + 1 => mA 2 3 (m_l_alike (r_l_alike n))
def a_l_alike : FA := r_l_alike 4
def m_is_number : ZS := (sRet (zAnd (zUn (oIsi pInt) (zVar 0)) (zAnd (zNot (zUn (oIsi pBool) (zVar 0))) (zChain oLeI oLeI (zVar 1) (zVar 0) (zVar 2)))))
def a_is_number : FA := mA 3 3 (m_is_number)
def m_need_machine : ZS := (sSeq (sIf (zOr (zNot (zUn (oIsi pTup) (zVar 0))) (zBin (qOp (oEqD true)) (zApp (qOpN oLen) (zCons (zVar 0) zNil)) (zC (.int 2)))) sStuck sNext)
      (sSeq (sAsg (zVar 0) (gT (gConsZ (gN 1) (gConsZ (gN 2) gNilZ))))
      (sSeq (sIf (zNot (zUn oTru (zCallA a_is_number (zCons (zVar 1) (zCons (zC (.int 1)) (zCons (zC (.int 4)) zNil)))))) sStuck sNext)
      (sSeq (sIf (zOr (zNot (zUn (oIsi pTup) (zVar 2))) (zNot (zChain oLeI oLeI (zC (.int 1)) (zApp (qOpN oLen) (zCons (zVar 2) zNil)) (zC (.int 3))))) sStuck sNext)
      (sIf (zNot (zGen false (zIt (zVar 2)) (gN 3) (zCallA a_is_number (zCons (zVar 3) (zCons (zC (.int 1)) (zCons (zC (.int 2)) zNil)))) [3])) sStuck sNext)))))
def a_need_machine : FA := mA 1 4 (m_need_machine)
def m_is_line : ZS := (sSeq (sAsg (zVar 0) (gT (gConsZ (gN 2) (gConsZ (gN 3) gNilZ))))
      (sSeq (sIf (zOr (zNot (zUn (oIsi pTup) (zVar 1))) (zOr (zBin (qOp (oEqD true)) (zApp (qOpN oLen) (zCons (zVar 1) zNil)) (zC (.int 3))) (zNot (zUn oTru (zCallA a_is_number (zCons (zBin (qOp oIx) (zVar 1) (zC (.int 0))) (zCons (zC (.int 0)) (zCons (zBin (qOp oSubI) (zVar 2) (zC (.int 1))) zNil)))))))) (sRet (zC (.bl false))) sNext)
      (sSeq (sAsg (zVar 1) (gT (gConsZ (gN 4) (gConsZ (gN 5) (gConsZ (gN 6) gNilZ)))))
      (sSeq (sIf (zOr (zNot (zUn (oIsi pTup) (zVar 6))) (zNot (zGen false (zIt (zVar 6)) (gN 7) (zCallA a_is_number (zCons (zVar 7) (zCons (zC (.int 0)) (zCons (zBin (qOp oSubI) (zVar 2) (zC (.int 1))) zNil)))) [7]))) (sRet (zC (.bl false))) sNext)
      (sSeq (sIf (zUn (oIsN false) (zVar 5)) (sRet (zAnd (zBin (qOp (oEqD false)) (zApp (qOpN oLen) (zCons (zVar 6) zNil)) (zC (.int 1))) (zBin (qOp (oEqD true)) (zBin (qOp oIx) (zVar 6) (zC (.int 0))) (zVar 4)))) sNext)
      (sRet (zAnd (zCallA a_is_number (zCons (zVar 5) (zCons (zC (.int 0)) (zCons (zBin (qOp oSubI) (zApp (qOpN oLen) (zCons (zVar 3) zNil)) (zC (.int 1))) zNil)))) (zBin (qOp (oEqD false)) (zApp (qOpN oLen) (zCons (zVar 6) zNil)) (zBin (qOp oIx) (zVar 3) (zVar 5))))))))))
def a_is_line : FA := mA 2 8 (m_is_line)
def m_need_program : ZS := (sSeq (sIf (zOr (zNot (zUn (oIsi pTup) (zVar 1))) (zBin (qOp oGtI) (zApp (qOpN oLen) (zCons (zVar 1) zNil)) (zC (.int 60)))) sStuck sNext)
      (sFor (zEnum (zVar 1)) (gT (gConsZ (gN 2) (gConsZ (gN 3) gNilZ))) (sIf (zNot (zUn oTru (zCallA a_is_line (zCons (zVar 0) (zCons (zVar 3) zNil))))) sStuck sNext)))
def a_need_program : FA := mA 2 4 (m_need_program)
def m_need_chance : ZS := (sSeq (sIf (zOr (zNot (zUn (oIsi pTup) (zVar 0))) (zOr (zBin (qOp (oEqD true)) (zApp (qOpN oLen) (zCons (zVar 0) zNil)) (zC (.int 2))) (zNot (zUn oTru (zCallA a_is_number (zCons (zBin (qOp oIx) (zVar 0) (zC (.int 1))) (zCons (zC (.int 1)) (zCons (zC (.int 1000)) zNil)))))))) sStuck sNext)
      (sIf (zNot (zUn oTru (zCallA a_is_number (zCons (zBin (qOp oIx) (zVar 0) (zC (.int 0))) (zCons (zC (.int 0)) (zCons (zBin (qOp oIx) (zVar 0) (zC (.int 1))) zNil)))))) sStuck sNext))
def a_need_chance : FA := mA 1 1 (m_need_chance)
def m_is_term (r : FA) : ZS := (sSeq (sAsg (zVar 0) (gT (gConsZ (gN 3) (gConsZ (gN 4) gNilZ))))
      (sSeq (sIf (zNot (zUn (oIsi pTup) (zVar 1))) (sRet (zCallA a_is_number (zCons (zVar 1) (zCons (zC (.int 0)) (zCons (zBin (qOp oSubI) (zVar 3) (zC (.int 1))) zNil))))) sNext)
      (sSeq (sIf (zOr (zBin (qOp oLtI) (zVar 2) (zC (.int 2))) (zOr (zNot (zUn oTru (zVar 1))) (zNot (zUn oTru (zCallA a_is_number (zCons (zBin (qOp oIx) (zVar 1) (zC (.int 0))) (zCons (zC (.int 0)) (zCons (zBin (qOp oSubI) (zApp (qOpN oLen) (zCons (zVar 4) zNil)) (zC (.int 1))) zNil)))))))) (sRet (zC (.bl false))) sNext)
      (sSeq (sIf (zBin (qOp (oEqD true)) (zApp (qOpN oLen) (zCons (zVar 1) zNil)) (zBin (qOp (oAdd false)) (zC (.int 1)) (zBin (qOp oIx) (zVar 4) (zBin (qOp oIx) (zVar 1) (zC (.int 0)))))) (sRet (zC (.bl false))) sNext)
      (sRet (zGen false (zIt (zSl false (zVar 1) (some (zC (.int 1))) none)) (gN 5) (zCallA r (zAppd [] (zCons (zVar 0) (zCons (zVar 5) (zCons (zBin (qOp oSubI) (zVar 2) (zC (.int 1))) zNil))))) [5]))))))
def r_is_term : Nat → FA
  | 0 => fun _ => .stuck
  | n + 1 => mA 3 6 (m_is_term (r_is_term n))
def a_is_term : FA := r_is_term 10
def m_is_wish : ZS := (sSeq (sIf (zOr (zNot (zUn (oIsi pTup) (zVar 1))) (zOr (zBin (qOp (oEqD true)) (zApp (qOpN oLen) (zCons (zVar 1) zNil)) (zC (.int 2))) (zNot (zUn oTru (zCallA a_is_number (zCons (zBin (qOp oIx) (zVar 1) (zC (.int 0))) (zCons (zC (.int 0)) (zCons (zBin (qOp oSubI) (zBin (qOp oIx) (zVar 0) (zC (.int 0))) (zC (.int 1))) zNil)))))))) (sRet (zC (.bl false))) sNext)
      (sRet (zCallA a_is_term (zAppd [.int 8] (zCons (zVar 0) (zCons (zBin (qOp oIx) (zVar 1) (zC (.int 1))) zNil))))))
def a_is_wish : FA := mA 2 2 (m_is_wish)
def m_need_wishes : ZS := (sSeq (sIf (zOr (zNot (zUn (oIsi pTup) (zVar 1))) (zNot (zUn oTru (zVar 1)))) sStuck sNext)
      (sFor (zEnum (zVar 1)) (gT (gConsZ (gN 2) (gConsZ (gN 3) gNilZ))) (sIf (zOr (zNot (zUn oTru (zCallA a_is_wish (zCons (zVar 0) (zCons (zVar 3) zNil))))) (zAnd (zBin (qOp oGtI) (zVar 2) (zC (.int 0))) (zBin (qOp oGeI) (zBin (qOp oIx) (zBin (qOp oIx) (zVar 1) (zBin (qOp oSubI) (zVar 2) (zC (.int 1)))) (zC (.int 0))) (zBin (qOp oIx) (zVar 3) (zC (.int 0)))))) sStuck sNext)))
def a_need_wishes : FA := mA 2 4 (m_need_wishes)
def m_first_terms : ZS := (sRet (zUn oTupRg (zBin (qOp oIx) (zVar 0) (zC (.int 0)))))
def a_first_terms : FA := mA 1 1 (m_first_terms)
def m_depth (r : FA) : ZS := (sRet (zIf (zUn (oIsi pTup) (zVar 0)) (zBin (qOp (oAdd false)) (zC (.int 1)) (zApp (qOpN oMax) (zCons (zLc false (zIt (zSl false (zVar 0) (some (zC (.int 1))) none)) (gN 1) zYes (zCallA r (zCons (zVar 1) zNil)) [1]) zNil))) (zC (.int 1))))
def r_depth : Nat → FA
  | 0 => fun _ => .stuck
  | n + 1 => mA 1 2 (m_depth (r_depth n))
def a_depth : FA := r_depth 10
def m_done : ZS := (sSeq (sAsg (zVar 1) (gT (gConsZ (gN 2) (gConsZ (gN 3) (gConsZ (gN 4) gNilZ)))))
      (sSeq (sIf (zUn (oIsN false) (zVar 3)) (sAsg (zBin (qOp oIx) (zVar 0) (zBin (qOp oIx) (zVar 4) (zC (.int 0)))) (gN 5)) (sSeq (sAsg (zBin (qOp (oAdd false)) (zTup (zCons (zVar 3) zNil)) (zApp (qOpN oTuple) (zCons (zLc false (zIt (zVar 4)) (gN 6) zYes (zBin (qOp oIx) (zVar 0) (zVar 6)) [6]) zNil))) (gN 5))
      (sIf (zBin (qOp oGtI) (zCallA a_depth (zCons (zVar 5) zNil)) (zC (.int 8))) sStuck sNext)))
      (sRet (zBin (qOp (oAdd false)) (zBin (qOp (oAdd false)) (zSl false (zVar 0) none (some (zVar 2))) (zTup (zCons (zVar 5) zNil))) (zSl false (zVar 0) (some (zBin (qOp (oAdd false)) (zVar 2) (zC (.int 1)))) none)))))
def a_done : FA := mA 2 7 (m_done)
def m_fulfilled : ZS := (sRet (zGen false (zIt (zVar 1)) (gT (gConsZ (gN 2) (gConsZ (gN 3) gNilZ))) (zBin (qOp (oEqD false)) (zBin (qOp oIx) (zVar 0) (zVar 2)) (zVar 3)) [2, 3]))
def a_fulfilled : FA := mA 2 4 (m_fulfilled)
def m_common (fu : Nat) : ZS := (sSeq (zWh (zUn oTru (zVar 1)) (sPar 0 1 (zCons (zVar 1) (zCons (zBin (qOp oModI) (zVar 0) (zVar 1)) zNil))) fu)
      (sRet (zVar 0)))
def a_common (fu : Nat) : FA := mA 2 2 (m_common fu)
def m_right_chance (fu : Nat) : ZS := (sSeq (sDrop (zCallA a_need_machine (zCons (zVar 0) zNil)))
      (sSeq (sDrop (zCallA a_need_program (zCons (zVar 0) (zCons (zVar 1) zNil))))
      (sSeq (sDrop (zCallA a_need_chance (zCons (zVar 2) zNil)))
      (sSeq (sDrop (zCallA a_need_wishes (zCons (zVar 0) (zCons (zVar 3) zNil))))
      (sSeq (sAsg (zVar 2) (gT (gConsZ (gN 7) (gConsZ (gN 8) gNilZ))))
      (sSeq (sPar 9 10 (zCons (zDct1 false (zCallA a_first_terms (zCons (zVar 0) zNil)) (zC (.int 1))) (zCons (zC (.int 1)) zNil)))
      (sSeq (sFor (zIt (zVar 1)) (gN 4) (sSeq (sAsg (zDct0 true) (gN 11))
      (sSeq (sFor (zItems (zVar 9)) (gT (gConsZ (gN 12) (gConsZ (gN 13) gNilZ))) (sFor (zIt (zTup (zCons (zTup (zCons (zCallA a_done (zCons (zVar 12) (zCons (zVar 4) zNil))) (zCons (zBin (qOp oSubI) (zVar 8) (zVar 7)) zNil))) (zCons (zTup (zCons (zVar 12) (zCons (zVar 7) zNil))) zNil)))) (gT (gConsZ (gN 14) (gConsZ (gN 15) gNilZ))) (sIf (zUn oTru (zVar 15)) (sSub (or3 oSetL oSetD) (zBin (qOp (oAdd false)) (zMethN isDct (fun o ds st => (oGet o ds st).quiet) (zVar 11) (zCons (zVar 14) (zCons (zC (.int 0)) zNil))) (zBin (qOp oMul) (zVar 13) (zVar 15))) (zVar 11) (zVar 14)) sNext)))
      (sSeq (sIf (zBin (qOp oGtI) (zApp (qOpN oLen) (zCons (zVar 11) zNil)) (zC (.int 3000))) sStuck sNext)
      (sPar 9 10 (zCons (zVar 11) (zCons (zBin (qOp oMul) (zVar 10) (zVar 8)) zNil)))))))
      (sSeq (sAsg (zApp (qOpN oSum) (zCons (zLc false (zItems (zVar 9)) (gT (gConsZ (gN 12) (gConsZ (gN 13) gNilZ))) (zUn oTru (zCallA a_fulfilled (zCons (zVar 12) (zCons (zVar 3) zNil)))) (zVar 13) [12, 13]) zNil)) (gN 5))
      (sSeq (sAsg (zCallA (a_common fu) (zCons (zVar 5) (zCons (zVar 10) zNil))) (gN 6))
      (sRet (zTup (zCons (zBin (qOp oDivI) (zVar 5) (zVar 6)) (zCons (zBin (qOp oDivI) (zVar 10) (zVar 6)) zNil)))))))))))))
def a_right_chance (fu : Nat) : FA := mA 4 16 (m_right_chance fu)
def m_law (fu : Nat) : ZS := (sSeq (sAsg (zLst true (zCons (zVar 0) (zCons (zC (.int 0)) (zCons (zC (.int 905)) (zCons (zC (.int 0)) zNil))))) (gN 1))
      (sSeq (sAsg (zCallB b_l_machine (zCons (zVar 1) zNil)) (gN 2))
      (sSeq (sPar 7 8 (zCons (zCallA a_l_tame (zCons (zVar 2) (zCons (zCallB b_l_program (zCons (zVar 1) (zCons (zVar 2) (zCons (zC (.int 7)) zNil)))) zNil))) (zCons (zCallB b_l_wishes (zCons (zVar 1) (zCons (zVar 2) zNil))) zNil)))
      (sSeq (sIf (zBin (qOp oGtI) (zCallB b_l_taken (zCons (zVar 1) (zCons (zC (.int 3)) zNil))) (zC (.int 0))) (sSeq (sAsg (zCallA a_l_ran (zCons (zVar 2) (zCons (zVar 7) (zCons (zTup zNil) zNil)))) (gN 9))
      (sAsg (zApp (qOpN oTuple) (zCons (zLc false (zRng1 (zCons (zBin (qOp oIx) (zVar 2) (zC (.int 0))) zNil)) (gN 16) (zOr (zBin (qOp (oEqD false)) (zCallB b_l_taken (zCons (zVar 1) (zCons (zC (.int 2)) zNil))) (zC (.int 0))) (zBin (qOp (oEqD false)) (zVar 16) (zC (.int 0)))) (zTup (zCons (zVar 16) (zCons (zBin (qOp oIx) (zVar 9) (zVar 16)) zNil))) [16]) zNil)) (gN 8))) sNext)
      (sSeq (sAsg (zBin (qOp (oAdd false)) (zC (.int 1)) (zCallB b_l_taken (zCons (zVar 1) (zCons (zC (.int 9)) zNil)))) (gN 3))
      (sSeq (sPar 10 11 (zCons (zCallB b_l_taken (zCons (zVar 1) (zCons (zBin (qOp (oAdd false)) (zVar 3) (zC (.int 1))) zNil))) (zCons (zC (.int 0)) zNil)))
      (sSeq (sFor (zIt (zCallA a_l_every_loss (zCons (zApp (qOpN oLen) (zCons (zVar 7) zNil)) (zCons (zBin (qOp (oAdd false)) (zApp (qOpN oLen) (zCons (zVar 7) zNil)) (zC (.int 1))) zNil)))) (gN 4) (sSeq (sAsg (zCallA a_l_ran (zCons (zVar 2) (zCons (zVar 7) (zCons (zVar 4) zNil)))) (gN 9))
      (sSeq (sIf (zUn (oIsN false) (zVar 9)) (sRet (zC (.bl true))) sNext)
      (sIf (zBin (qOp (oEqD false)) (zLc false (zIt (zVar 8)) (gT (gConsZ (gN 16) (gConsZ (gN 17) gNilZ))) (zBin (qOp (oEqD true)) (zBin (qOp oIx) (zVar 9) (zVar 16)) (zVar 17)) (zC (.int 1)) [16, 17]) (zLst false zNil)) (sSeq (sAsg (zC (.int 1)) (gN 14))
      (sSeq (sFor (zRng1 (zCons (zApp (qOpN oLen) (zCons (zVar 7) zNil)) zNil)) (gN 15) (sAsg (zBin (qOp oMul) (zVar 14) (zIf (zBin (qOp (oInD false)) (zVar 15) (zVar 4)) (zVar 10) (zBin (qOp oSubI) (zVar 3) (zVar 10)))) (gN 14)))
      (sAsg (zBin (qOp (oAdd false)) (zVar 11) (zVar 14)) (gN 11)))) sNext))))
      (sSeq (sAsg (zC (.int 1)) (gN 5))
      (sSeq (sFor (zIt (zVar 7)) (gN 6) (sAsg (zBin (qOp oMul) (zVar 5) (zVar 3)) (gN 5)))
      (sSeq (sPar 12 13 (zCons (zVar 11) (zCons (zVar 5) zNil)))
      (sSeq (zWh (zBin (qOp oGtI) (zVar 13) (zC (.int 0))) (sPar 12 13 (zCons (zVar 13) (zCons (zBin (qOp oModI) (zApp (qOpN oInt) (zCons (zVar 12) zNil)) (zVar 13)) zNil))) fu)
      (sRet (zCallA a_l_alike (zCons (zCallA (a_right_chance fu) (zCons (zVar 2) (zCons (zVar 7) (zCons (zTup (zCons (zVar 10) (zCons (zVar 3) zNil))) (zCons (zVar 8) zNil))))) (zCons (zTup (zCons (zBin (qOp oDivI) (zVar 11) (zVar 12)) (zCons (zBin (qOp oDivI) (zVar 5) (zVar 12)) zNil))) zNil)))))))))))))))
def a_law (fu : Nat) : FA := mA 1 18 (m_law fu)
/-! ### what is known -/
structure Us (P : Program) (w : World) (K : PySem.W.Frag) (mg : Str → Option Value) (base : Heap) (T : List Addr) : Prop where
  f_all : mg "all" = none
  f_bool : mg "bool" = none
  f_enumerate : mg "enumerate" = none
  f_int : mg "int" = none
  f_isinstance : mg "isinstance" = none
  f_len : mg "len" = none
  f_list : mg "list" = none
  f_max : mg "max" = none
  f_range : mg "range" = none
  f_str : mg "str" = none
  f_sum : mg "sum" = none
  f_tuple : mg "tuple" = none
  g_MOST_BOTTOM : ∃ t, mg "MOST_BOTTOM" = some (.int 1000 t)
  g_MOST_CELLS : ∃ t, mg "MOST_CELLS" = some (.int 4 t)
  g_MOST_DEEP : ∃ t, mg "MOST_DEEP" = some (.int 8 t)
  g_MOST_FUNCTIONS : ∃ t, mg "MOST_FUNCTIONS" = some (.int 3 t)
  g_MOST_LINES : ∃ t, mg "MOST_LINES" = some (.int 60 t)
  g_MOST_PAIRS : ∃ t, mg "MOST_PAIRS" = some (.int 3000 t)
  g_MOST_READ : ∃ t, mg "MOST_READ" = some (.int 2 t)
  d_l_taken : ∃ a fd, FnP K "_law_taken" (top 32) [] a fd ∧ mg "_law_taken" = some (.ref a)
  d_l_machine : ∃ a fd, FnP K "_law_machine" (top 33) [] a fd ∧ mg "_law_machine" = some (.ref a)
  d_l_did : ∃ a fd, FnP K "_law_did" (top 34) [] a fd ∧ mg "_law_did" = some (.ref a)
  d_l_deep : ∃ a fd, FnP K "_law_deep" (top 35) [] a fd ∧ mg "_law_deep" = some (.ref a)
  d_l_tame : ∃ a fd, FnP K "_law_tame" (top 36) [] a fd ∧ mg "_law_tame" = some (.ref a)
  d_l_every_line : ∃ a fd, FnP K "_law_every_line" (top 37) [] a fd ∧ mg "_law_every_line" = some (.ref a)
  d_l_pick : ∃ a fd, FnP K "_law_pick" (top 38) [] a fd ∧ mg "_law_pick" = some (.ref a)
  d_l_program : ∃ a fd, FnP K "_law_program" (top 39) [] a fd ∧ mg "_law_program" = some (.ref a)
  d_l_ran : ∃ a fd, FnP K "_law_ran" (top 40) [] a fd ∧ mg "_law_ran" = some (.ref a)
  d_l_wishes : ∃ a fd, FnP K "_law_wishes" (top 41) [] a fd ∧ mg "_law_wishes" = some (.ref a)
  d_l_every_loss : ∃ a fd, FnP K "_law_every_loss" (top 42) [] a fd ∧ mg "_law_every_loss" = some (.ref a)
  d_l_alike : ∃ a fd, FnP K "_law_alike" (top 43) [] a fd ∧ mg "_law_alike" = some (.ref a)
  d_is_number : ∃ a fd, FnP K "is_number" (top 13) [] a fd ∧ mg "is_number" = some (.ref a)
  d_need_machine : ∃ a fd, FnP K "need_machine" (top 14) [] a fd ∧ mg "need_machine" = some (.ref a)
  d_is_line : ∃ a fd, FnP K "is_line" (top 15) [] a fd ∧ mg "is_line" = some (.ref a)
  d_need_program : ∃ a fd, FnP K "need_program" (top 16) [] a fd ∧ mg "need_program" = some (.ref a)
  d_need_chance : ∃ a fd, FnP K "need_chance" (top 29) [] a fd ∧ mg "need_chance" = some (.ref a)
  d_is_term : ∃ a fd, FnP K "is_term" (top 18) [.int 8] a fd ∧ mg "is_term" = some (.ref a)
  d_is_wish : ∃ a fd, FnP K "is_wish" (top 23) [] a fd ∧ mg "is_wish" = some (.ref a)
  d_need_wishes : ∃ a fd, FnP K "need_wishes" (top 24) [] a fd ∧ mg "need_wishes" = some (.ref a)
  d_first_terms : ∃ a fd, FnP K "first_terms" (top 19) [] a fd ∧ mg "first_terms" = some (.ref a)
  d_depth : ∃ a fd, FnP K "depth" (top 17) [] a fd ∧ mg "depth" = some (.ref a)
  d_done : ∃ a fd, FnP K "done" (top 20) [] a fd ∧ mg "done" = some (.ref a)
  d_fulfilled : ∃ a fd, FnP K "fulfilled" (top 25) [] a fd ∧ mg "fulfilled" = some (.ref a)
  d_common : ∃ a fd, FnP K "common" (top 28) [] a fd ∧ mg "common" = some (.ref a)
  d_right_chance : ∃ a fd, FnP K "right_chance" (top 30) [] a fd ∧ mg "right_chance" = some (.ref a)
  d_law : ∃ a fd, FnP K "law" (top 44) [] a fd ∧ mg "law" = some (.ref a)
  t_need_machine : ∀ a fd oc od osl, mg "need_machine" = some (.ref a) → K.lookup a = some ⟨oc, od, .func fd, osl⟩ → ∃ c P, fd.code = .ref c ∧ GxR.TabB base mg c P ∧ P ∈ T
  t_is_line : ∀ a fd oc od osl, mg "is_line" = some (.ref a) → K.lookup a = some ⟨oc, od, .func fd, osl⟩ → ∃ c P, fd.code = .ref c ∧ GxR.TabB base mg c P ∧ P ∈ T
  t_is_term : ∀ a fd oc od osl, mg "is_term" = some (.ref a) → K.lookup a = some ⟨oc, od, .func fd, osl⟩ → ∃ c P, fd.code = .ref c ∧ GxR.TabB base mg c P ∧ P ∈ T
  t_fulfilled : ∀ a fd oc od osl, mg "fulfilled" = some (.ref a) → K.lookup a = some ⟨oc, od, .func fd, osl⟩ → ∃ c P, fd.code = .ref c ∧ GxR.TabB base mg c P ∧ P ∈ T
/-! ### each def keeps its promise -/
section
variable {P : Program} {w : World} {K : PySem.W.Frag} {mg : Str → Option Value} {base : Heap} {T : List Addr} {TL : List (Addr × Str)}
abbrev N_l_taken : List Str := ["_law_row", "_law_many", "_law_cell", "_law_found"]
abbrev S_l_taken : Scope := { kind := PySem.ScopeKind.function, names := [ (PySem.Str.ofString "_law_row", PySem.NameKind.local), (PySem.Str.ofString "_law_many", PySem.NameKind.local), (PySem.Str.ofString "_law_found", PySem.NameKind.local), (PySem.Str.ofString "_law_cell", PySem.NameKind.local), (PySem.Str.ofString "int", PySem.NameKind.globalImplicit), (PySem.Str.ofString "len", PySem.NameKind.globalImplicit)], isGenerator := false, isCoroutine := false, more := [] : PySem.Scope }
theorem es_l_taken : defScope (top 32) = S_l_taken := by kernel_rfl
theorem fs_l_taken : FnScope N_l_taken ["_law_row", "_law_many"] S_l_taken := ⟨rfl, rfl, rfl, by decide +kernel, rfl, by decide +kernel, by decide +kernel⟩
theorem ok_l_taken (U : Us P w K mg base T) : OkB P w K mg base ⟨⟨mg, K⟩, T, TL⟩ 1 "_law_taken" (b_l_taken) := by
  obtain ⟨a, fd, F, hx⟩ := U.d_l_taken
  unfold FnP at F
  rw [es_l_taken] at F
  refine okB_of F hx fs_l_taken (fun _ _ _ _ _ _ us hl => match us, hl with | [_, _], _ => rfl) fun cd A outer s H E hc hr => ?_
  have z := zCx_z (T := T) (TL := TL) (E := E) (H := H) (K := K) (mg := mg) (base := base) (P := P) (w := w) (outer := outer) fs_l_taken.nd hr
  exact (ds_cons (ds_if (dt_cmp (OpZ.q oz_gt) (de_ix (de_v 0) de_int) de_int) (ds_cons (ds_set (i := 3) z.nd (de_op (OpZ.q oz_modI) (de_toint U.f_int (da_cons (de_ix (de_v 0) de_int) da_nil)) (de_v 1)))
      (ds_cons (ds_sub (set_l.or (set_d z.room.units)) (de_op (OpZ.q oz_divI) (de_ix (de_v 0) de_int) (de_v 1)) (de_v 0) de_int)
      (ds_one (ds_ret (de_v 3))))) ds_nil)
      (ds_cons (ds_sub (set_l.or (set_d z.room.units)) (de_op (OpZ.q (oz_add false)) (de_ix (de_v 0) de_int) de_int) (de_v 0) de_int)
      (ds_cons (ds_if (dt_cmp (OpZ.q oz_gt) (de_ix (de_v 0) de_int) (de_len U.f_len (da_cons (de_ix (de_v 0) de_int) da_nil))) (ds_cons (ds_sub (set_l.or (set_d z.room.units)) (de_op (OpZ.q oz_modI) (de_toint U.f_int (da_cons (de_op (OpZ.q (oz_add false)) (de_op (OpZ.q oz_mul) (de_ix (de_v 0) de_int) de_int) de_int) da_nil)) de_int) (de_v 0) de_int)
      (ds_one (ds_ret (de_op (OpZ.q oz_modI) (de_toint U.f_int (da_cons (de_op (OpZ.q oz_divI) (de_ix (de_v 0) de_int) de_int) da_nil)) (de_v 1))))) ds_nil)
      (ds_cons (ds_set (i := 2) z.nd (de_ix (de_ix (de_v 0) de_int) (de_op (OpZ.q oz_subI) (de_ix (de_v 0) de_int) de_int)))
      (ds_cons (ds_sub (set_l.or (set_d z.room.units)) (de_op (OpZ.q oz_modI) (de_toint U.f_int (da_cons (de_op (OpZ.q (oz_add false)) (de_op (OpZ.q (oz_add false)) (de_op (OpZ.q oz_mul) (de_ix (de_v 0) de_int) de_int) (de_v 2)) de_int) da_nil)) de_int) (de_v 0) de_int)
      (ds_cons (ds_if (dt_cmp (OpZ.q oz_ge) (de_v 2) (de_op (OpZ.q oz_powI) de_int de_int)) (ds_one (ds_sub (set_l.or (set_d z.room.units)) (de_op (OpZ.q oz_divI) (de_v 2) (de_v 1)) (de_v 0) de_int)) ds_nil)
      (ds_one (ds_ret (de_op (OpZ.q oz_modI) (de_toint U.f_int (da_cons (de_v 2) da_nil)) (de_v 1))))))))))
abbrev N_l_machine : List Str := ["_law_row", "_law_cells", "_law_many", "_law_function"]
abbrev S_l_machine : Scope := { kind := PySem.ScopeKind.function, names := [ (PySem.Str.ofString "_law_row", PySem.NameKind.cell), (PySem.Str.ofString "_law_cells", PySem.NameKind.local), (PySem.Str.ofString "_law_many", PySem.NameKind.local), (PySem.Str.ofString "_law_taken", PySem.NameKind.globalImplicit), (PySem.Str.ofString "tuple", PySem.NameKind.globalImplicit), (PySem.Str.ofString "range", PySem.NameKind.globalImplicit)], isGenerator := false, isCoroutine := false, more := [ (PySem.Str.ofString "fast", (PySem.Const.str "_law_row")), (PySem.Str.ofString "fast", (PySem.Const.str "_law_cells")), (PySem.Str.ofString "fast", (PySem.Const.str "_law_many")), (PySem.Str.ofString "fast", (PySem.Const.str "_law_function"))] : PySem.Scope }
theorem es_l_machine : defScope (top 33) = S_l_machine := by kernel_rfl
theorem fs_l_machine : FnScope N_l_machine ["_law_row"] S_l_machine := ⟨rfl, rfl, rfl, by decide +kernel, rfl, by decide +kernel, by decide +kernel⟩
theorem ok_l_machine (U : Us P w K mg base T) : OkB P w K mg base ⟨⟨mg, K⟩, T, TL⟩ 2 "_law_machine" (b_l_machine) := by
  have c_l_taken := ok_l_taken (TL := TL) U
  obtain ⟨a, fd, F, hx⟩ := U.d_l_machine
  unfold FnP at F
  rw [es_l_machine] at F
  refine okB_of F hx fs_l_machine (fun _ _ _ _ _ _ us hl => match us, hl with | [_], _ => rfl) fun cd A outer s H E hc hr => ?_
  have z := zCx_z (T := T) (TL := TL) (E := E) (H := H) (K := K) (mg := mg) (base := base) (P := P) (w := w) (outer := outer) fs_l_machine.nd hr
  exact (ds_cons (ds_par (i := 1) (j := 2) z.calm z.nd (da_cons (de_op (OpZ.q (oz_add false)) de_int (de_callB z (c_l_taken.mono (by decide)) (da_cons (de_v 0) (da_cons de_int da_nil)))) (da_cons (de_op (OpZ.q (oz_add false)) de_int (de_callB z (c_l_taken.mono (by decide)) (da_cons (de_v 0) (da_cons de_int da_nil)))) da_nil)) (by decide))
      (ds_one (ds_ret (de_tup (da_cons (de_v 1) (da_cons (de_tuple U.f_tuple (da_cons (de_lc false z.calm z.nd (di_range1 rfl U.f_range (da_cons (de_v 2) da_nil)) (blkOk_by (own := [("_law_function", 3)]) rfl) (fun _ _ _ _ _ => (dg_name (i := 3) (by decide) (z.blk).nd)) (fun _ _ _ _ _ => dts_nil) (fun _ _ _ _ _ => (de_op (OpZ.q (oz_add false)) de_int (de_callB (z.blk) (c_l_taken.mono (by decide)) (da_cons (de_v 0) (da_cons de_int da_nil)))))) da_nil)) da_nil))))))
abbrev N_l_did : List Str := ["_law_held", "_law_line", "_law_term", "_law_cell", "_law_function", "_law_sources", "_law_one"]
abbrev S_l_did : Scope := { kind := PySem.ScopeKind.function, names := [ (PySem.Str.ofString "_law_held", PySem.NameKind.cell), (PySem.Str.ofString "_law_line", PySem.NameKind.local), (PySem.Str.ofString "_law_cell", PySem.NameKind.local), (PySem.Str.ofString "_law_function", PySem.NameKind.local), (PySem.Str.ofString "_law_sources", PySem.NameKind.local), (PySem.Str.ofString "_law_term", PySem.NameKind.local), (PySem.Str.ofString "tuple", PySem.NameKind.globalImplicit)], isGenerator := false, isCoroutine := false, more := [ (PySem.Str.ofString "fast", (PySem.Const.str "_law_held")), (PySem.Str.ofString "fast", (PySem.Const.str "_law_line")), (PySem.Str.ofString "fast", (PySem.Const.str "_law_cell")), (PySem.Str.ofString "fast", (PySem.Const.str "_law_function")), (PySem.Str.ofString "fast", (PySem.Const.str "_law_sources")), (PySem.Str.ofString "fast", (PySem.Const.str "_law_one")), (PySem.Str.ofString "fast", (PySem.Const.str "_law_term"))] : PySem.Scope }
theorem es_l_did : defScope (top 34) = S_l_did := by kernel_rfl
theorem fs_l_did : FnScope N_l_did ["_law_held", "_law_line"] S_l_did := ⟨rfl, rfl, rfl, by decide +kernel, rfl, by decide +kernel, by decide +kernel⟩
theorem ok_l_did (U : Us P w K mg base T) : OkA P w K mg base ⟨⟨mg, K⟩, T, TL⟩ 1 "_law_did" (a_l_did) := by
  obtain ⟨a, fd, F, hx⟩ := U.d_l_did
  unfold FnP at F
  rw [es_l_did] at F
  refine okA_of F hx fs_l_did (fun _ _ _ _ _ _ us hl => match us, hl with | [_, _], _ => rfl) fun cd A outer s H E hc hr => ?_
  have z := zCx_z (T := T) (TL := TL) (E := E) (H := H) (K := K) (mg := mg) (base := base) (P := P) (w := w) (outer := outer) fs_l_did.nd hr
  exact (ds_cons (ds_asg (ws := [3, 4, 5]) (de_v 1) (dg_tup z.calm (dgs_cons (dg_name (i := 3) (by decide) z.nd) (dgs_cons (dg_name (i := 4) (by decide) z.nd) (dgs_cons (dg_name (i := 5) (by decide) z.nd) dgs_nil))) (gl_cons (gl_cons (gl_cons gl_nil)))))
      (ds_cons (ds_set (i := 2) z.nd (de_if (dt_isN (de_v 4)) (de_ix (de_v 0) (de_ix (de_v 5) de_int)) (de_op (OpZ.q (oz_add false)) (de_tup (da_cons (de_v 4) da_nil)) (de_tuple U.f_tuple (da_cons (de_lc false z.calm z.nd (di_it (de_v 5)) (blkOk_by (own := [("_law_one", 6)]) rfl) (fun _ _ _ _ _ => (dg_name (i := 6) (by decide) (z.blk).nd)) (fun _ _ _ _ _ => dts_nil) (fun _ _ _ _ _ => (de_ix (de_v 0) (de_v 6)))) da_nil)))))
      (ds_one (ds_ret (de_op (OpZ.q (oz_add false)) (de_op (OpZ.q (oz_add false)) (de_sl false (de_v 0) do_none (do_some (de_v 3))) (de_tup (da_cons (de_v 2) da_nil))) (de_sl false (de_v 0) (do_some (de_op (OpZ.q (oz_add false)) (de_v 3) de_int)) do_none))))))
abbrev N_l_deep : List Str := ["_law_term", "_law_part"]
abbrev S_l_deep : Scope := { kind := PySem.ScopeKind.function, names := [ (PySem.Str.ofString "_law_term", PySem.NameKind.local), (PySem.Str.ofString "isinstance", PySem.NameKind.globalImplicit), (PySem.Str.ofString "tuple", PySem.NameKind.globalImplicit), (PySem.Str.ofString "max", PySem.NameKind.globalImplicit)], isGenerator := false, isCoroutine := false, more := [ (PySem.Str.ofString "fast", (PySem.Const.str "_law_term")), (PySem.Str.ofString "fast", (PySem.Const.str "_law_part"))] : PySem.Scope }
theorem es_l_deep : defScope (top 35) = S_l_deep := by kernel_rfl
theorem fs_l_deep : FnScope N_l_deep ["_law_term"] S_l_deep := ⟨rfl, rfl, rfl, by decide +kernel, rfl, by decide +kernel, by decide +kernel⟩
theorem ro_l_deep (U : Us P w K mg base T) : ∀ n, OkA P w K mg base ⟨⟨mg, K⟩, T, TL⟩ (1 + 1 * n) "_law_deep" (r_l_deep n)
  | 0 => by
    obtain ⟨a, fd, F, hx⟩ := U.d_l_deep
    unfold FnP at F
    rw [es_l_deep] at F
    have h := okA_of F hx fs_l_deep (fun _ _ _ _ _ _ us hl => match us, hl with | [_], _ => rfl) (P := P) (w := w) (base := base) (T := T) (TL := TL) (k := 0) (m := fun _ _ => .stuck) fun cd A outer s H E hc hr => dss_never
    exact okA_never h (by omega)
  | n + 1 => by
    have ih := ro_l_deep U n
    obtain ⟨a, fd, F, hx⟩ := U.d_l_deep
    unfold FnP at F
    rw [es_l_deep] at F
    have h := okA_of F hx fs_l_deep (fun _ _ _ _ _ _ us hl => match us, hl with | [_], _ => rfl) (P := P) (w := w) (base := base) (T := T) (TL := TL) (k := 1 + 1 * n) (m := m_l_deep (r_l_deep n)) fun cd A outer s H E hc hr => by
      have z := zCx_z (T := T) (TL := TL) (E := E) (H := H) (K := K) (mg := mg) (base := base) (P := P) (w := w) (outer := outer) fs_l_deep.nd hr
      exact (ds_cons (ds_if (dt_not (dt_val (de_isi kit_tup U.f_isinstance U.f_tuple boot_tuple (de_v 0)))) (ds_one (ds_ret de_int)) ds_nil)
      (ds_one (ds_ret (de_op (OpZ.q (oz_add false)) de_int (de_max z.calm U.f_max (da_cons (de_lc false z.calm z.nd (di_it (de_sl false (de_v 0) (do_some de_int) do_none)) (blkOk_by (own := [("_law_part", 1)]) rfl) (fun _ _ _ _ _ => (dg_name (i := 1) (by decide) (z.blk).nd)) (fun _ _ _ _ _ => dts_nil) (fun _ _ _ _ _ => (de_callA (z.blk) (ih.mono (by omega)) (da_cons (de_v 1) da_nil)))) da_nil))))))
    exact h.mono (by omega)
theorem ok_l_deep (U : Us P w K mg base T) : OkA P w K mg base ⟨⟨mg, K⟩, T, TL⟩ 11 "_law_deep" (a_l_deep) := ro_l_deep U 10
abbrev N_l_tame : List Str := ["_law_machine_here", "_law_program_here", "_law_line", "_law_held", "_law_found", "_law_after", "_law_term"]
abbrev S_l_tame : Scope := { kind := PySem.ScopeKind.function, names := [ (PySem.Str.ofString "_law_machine_here", PySem.NameKind.local), (PySem.Str.ofString "_law_program_here", PySem.NameKind.local), (PySem.Str.ofString "_law_held", PySem.NameKind.local), (PySem.Str.ofString "_law_found", PySem.NameKind.local), (PySem.Str.ofString "_law_line", PySem.NameKind.local), (PySem.Str.ofString "_law_after", PySem.NameKind.local), (PySem.Str.ofString "tuple", PySem.NameKind.globalImplicit), (PySem.Str.ofString "range", PySem.NameKind.globalImplicit), (PySem.Str.ofString "_law_did", PySem.NameKind.globalImplicit), (PySem.Str.ofString "max", PySem.NameKind.globalImplicit)], isGenerator := false, isCoroutine := false, more := [ (PySem.Str.ofString "fast", (PySem.Const.str "_law_machine_here")), (PySem.Str.ofString "fast", (PySem.Const.str "_law_program_here")), (PySem.Str.ofString "fast", (PySem.Const.str "_law_held")), (PySem.Str.ofString "fast", (PySem.Const.str "_law_found")), (PySem.Str.ofString "fast", (PySem.Const.str "_law_line")), (PySem.Str.ofString "fast", (PySem.Const.str "_law_after")), (PySem.Str.ofString "fast", (PySem.Const.str "_law_term"))] : PySem.Scope }
theorem es_l_tame : defScope (top 36) = S_l_tame := by kernel_rfl
theorem fs_l_tame : FnScope N_l_tame ["_law_machine_here", "_law_program_here"] S_l_tame := ⟨rfl, rfl, rfl, by decide +kernel, rfl, by decide +kernel, by decide +kernel⟩
theorem ok_l_tame (U : Us P w K mg base T) : OkA P w K mg base ⟨⟨mg, K⟩, T, TL⟩ 12 "_law_tame" (a_l_tame) := by
  have c_l_did := ok_l_did (TL := TL) U
  have c_l_deep := ok_l_deep (TL := TL) U
  obtain ⟨a, fd, F, hx⟩ := U.d_l_tame
  unfold FnP at F
  rw [es_l_tame] at F
  refine okA_of F hx fs_l_tame (fun _ _ _ _ _ _ us hl => match us, hl with | [_, _], _ => rfl) fun cd A outer s H E hc hr => ?_
  have z := zCx_z (T := T) (TL := TL) (E := E) (H := H) (K := K) (mg := mg) (base := base) (P := P) (w := w) (outer := outer) fs_l_tame.nd hr
  have po := zCx_po (P := P) (w := w) (K := K) (mg := mg) (base := base) (N := N_l_tame) (qual := "_law_tame") (scope := S_l_tame) (f := a) (cd := cd) (A := A) (outer := outer) (s := s) (H := H) (E := E)
  exact (ds_cons (ds_par (i := 3) (j := 4) z.calm z.nd (da_cons (de_tupRg z.calm U.f_tuple U.f_range (de_ix (de_v 0) de_int)) (da_cons (de_tup da_nil) da_nil)) (by decide))
      (ds_cons (ds_for (ws := [2]) po z.calm (di_it (de_v 1)) (dg_name (i := 2) (by decide) z.nd) (ds_cons (ds_set (i := 5) z.nd (de_callA z (c_l_did.mono (by decide)) (da_cons (de_v 3) (da_cons (de_v 2) da_nil))))
      (ds_one (ds_if (dt_cmp (OpZ.q oz_lt) (de_max z.calm U.f_max (da_cons (de_lc false z.calm z.nd (di_it (de_v 5)) (blkOk_by (own := [("_law_term", 6)]) rfl) (fun _ _ _ _ _ => (dg_name (i := 6) (by decide) (z.blk).nd)) (fun _ _ _ _ _ => dts_nil) (fun _ _ _ _ _ => (de_callA (z.blk) (c_l_deep.mono (by decide)) (da_cons (de_v 6) da_nil)))) da_nil)) de_int) (ds_one (ds_par (i := 3) (j := 4) z.calm z.nd (da_cons (de_v 5) (da_cons (de_op (OpZ.q (oz_add false)) (de_v 4) (de_tup (da_cons (de_v 2) da_nil))) da_nil)) (by decide))) ds_nil))))
      (ds_one (ds_ret (de_v 4)))))
abbrev N_l_every_line : List Str := ["_law_machine_here", "_law_found", "_law_cell", "_law_cells", "_law_functions", "_law_function", "_law_reads", "_law_one", "_law_other"]
abbrev S_l_every_line : Scope := { kind := PySem.ScopeKind.function, names := [ (PySem.Str.ofString "_law_machine_here", PySem.NameKind.local), (PySem.Str.ofString "_law_cells", PySem.NameKind.local), (PySem.Str.ofString "_law_functions", PySem.NameKind.local), (PySem.Str.ofString "_law_found", PySem.NameKind.local), (PySem.Str.ofString "_law_cell", PySem.NameKind.cell), (PySem.Str.ofString "_law_function", PySem.NameKind.cell), (PySem.Str.ofString "_law_reads", PySem.NameKind.local), (PySem.Str.ofString "_law_one", PySem.NameKind.cell), (PySem.Str.ofString "range", PySem.NameKind.globalImplicit), (PySem.Str.ofString "enumerate", PySem.NameKind.globalImplicit)], isGenerator := false, isCoroutine := false, more := [ (PySem.Str.ofString "fast", (PySem.Const.str "_law_machine_here")), (PySem.Str.ofString "fast", (PySem.Const.str "_law_cells")), (PySem.Str.ofString "fast", (PySem.Const.str "_law_functions")), (PySem.Str.ofString "fast", (PySem.Const.str "_law_found")), (PySem.Str.ofString "fast", (PySem.Const.str "_law_cell")), (PySem.Str.ofString "fast", (PySem.Const.str "_law_function")), (PySem.Str.ofString "fast", (PySem.Const.str "_law_reads")), (PySem.Str.ofString "fast", (PySem.Const.str "_law_one")), (PySem.Str.ofString "fast", (PySem.Const.str "_law_other"))] : PySem.Scope }
theorem es_l_every_line : defScope (top 37) = S_l_every_line := by kernel_rfl
theorem fs_l_every_line : FnScope N_l_every_line ["_law_machine_here"] S_l_every_line := ⟨rfl, rfl, rfl, by decide +kernel, rfl, by decide +kernel, by decide +kernel⟩
theorem ok_l_every_line (U : Us P w K mg base T) : OkA P w K mg base ⟨⟨mg, K⟩, T, TL⟩ 1 "_law_every_line" (a_l_every_line) := by
  obtain ⟨a, fd, F, hx⟩ := U.d_l_every_line
  unfold FnP at F
  rw [es_l_every_line] at F
  refine okA_of F hx fs_l_every_line (fun _ _ _ _ _ _ us hl => match us, hl with | [_], _ => rfl) fun cd A outer s H E hc hr => ?_
  have z := zCx_z (T := T) (TL := TL) (E := E) (H := H) (K := K) (mg := mg) (base := base) (P := P) (w := w) (outer := outer) fs_l_every_line.nd hr
  have po := zCx_po (P := P) (w := w) (K := K) (mg := mg) (base := base) (N := N_l_every_line) (qual := "_law_every_line") (scope := S_l_every_line) (f := a) (cd := cd) (A := A) (outer := outer) (s := s) (H := H) (E := E)
  exact (ds_cons (ds_asg (ws := [3, 4]) (de_v 0) (dg_tup z.calm (dgs_cons (dg_name (i := 3) (by decide) z.nd) (dgs_cons (dg_name (i := 4) (by decide) z.nd) dgs_nil)) (gl_cons (gl_cons gl_nil))))
      (ds_cons (ds_set (i := 1) z.nd (de_lst true da_nil))
      (ds_cons (ds_for (ws := [2]) po z.calm (di_range1 rfl U.f_range (da_cons (de_v 3) da_nil)) (dg_name (i := 2) (by decide) z.nd) (ds_cons (ds_for (ws := [5, 6]) po z.calm (di_enum rfl U.f_enumerate (de_v 4)) (dg_tup z.calm (dgs_cons (dg_name (i := 5) (by decide) z.nd) (dgs_cons (dg_name (i := 6) (by decide) z.nd) dgs_nil)) (gl_cons (gl_cons gl_nil))) (ds_one (ds_for (ws := [7]) po z.calm (di_range1 rfl U.f_range (da_cons (de_v 3) da_nil)) (dg_name (i := 7) (by decide) z.nd) (ds_one (ds_if (dt_cmp (OpZ.q (oz_eq z.room.units)) (de_v 6) de_int) (ds_one (ds_expr (de_append (de_v 1) (da_cons (de_tup (da_cons (de_v 2) (da_cons (de_v 5) (da_cons (de_tup (da_cons (de_v 7) da_nil)) da_nil)))) da_nil)))) (ds_one (ds_set (i := 1) z.nd (de_op (OpZ.q (oz_add true)) (de_v 1) (de_lc false z.calm z.nd (di_range1 rfl U.f_range (da_cons (de_v 3) da_nil)) (blkOk_by (own := [("_law_other", 8)]) rfl) (fun _ _ _ _ _ => (dg_name (i := 8) (by decide) (z.blk).nd)) (fun _ _ _ _ _ => dts_nil) (fun _ _ _ _ _ => (de_tup (da_cons (de_v 2) (da_cons (de_v 5) (da_cons (de_tup (da_cons (de_v 7) (da_cons (de_v 8) da_nil))) da_nil))))))))))))))
      (ds_one (ds_set (i := 1) z.nd (de_op (OpZ.q (oz_add true)) (de_v 1) (de_lc false z.calm z.nd (di_range1 rfl U.f_range (da_cons (de_v 3) da_nil)) (blkOk_by (own := [("_law_one", 7)]) rfl) (fun _ _ _ _ _ => (dg_name (i := 7) (by decide) (z.blk).nd)) (fun _ _ _ _ _ => (dts_one (dt_cmp (OpZ.q (oz_ne (z.blk).room.units)) (de_v 7) (de_v 2)))) (fun _ _ _ _ _ => (de_tup (da_cons (de_v 2) (da_cons de_non (da_cons (de_tup (da_cons (de_v 7) da_nil)) da_nil)))))))))))
      (ds_one (ds_ret (de_v 1))))))
abbrev N_l_pick : List Str := ["_law_row", "_law_things"]
abbrev S_l_pick : Scope := { kind := PySem.ScopeKind.function, names := [ (PySem.Str.ofString "_law_row", PySem.NameKind.local), (PySem.Str.ofString "_law_things", PySem.NameKind.local), (PySem.Str.ofString "_law_taken", PySem.NameKind.globalImplicit), (PySem.Str.ofString "len", PySem.NameKind.globalImplicit)], isGenerator := false, isCoroutine := false, more := [] : PySem.Scope }
theorem es_l_pick : defScope (top 38) = S_l_pick := by kernel_rfl
theorem fs_l_pick : FnScope N_l_pick ["_law_row", "_law_things"] S_l_pick := ⟨rfl, rfl, rfl, by decide +kernel, rfl, by decide +kernel, by decide +kernel⟩
theorem ok_l_pick (U : Us P w K mg base T) : OkB P w K mg base ⟨⟨mg, K⟩, T, TL⟩ 2 "_law_pick" (b_l_pick) := by
  have c_l_taken := ok_l_taken (TL := TL) U
  obtain ⟨a, fd, F, hx⟩ := U.d_l_pick
  unfold FnP at F
  rw [es_l_pick] at F
  refine okB_of F hx fs_l_pick (fun _ _ _ _ _ _ us hl => match us, hl with | [_, _], _ => rfl) fun cd A outer s H E hc hr => ?_
  have z := zCx_z (T := T) (TL := TL) (E := E) (H := H) (K := K) (mg := mg) (base := base) (P := P) (w := w) (outer := outer) fs_l_pick.nd hr
  exact (ds_one (ds_ret (de_ix (de_v 1) (de_callB z (c_l_taken.mono (by decide)) (da_cons (de_v 0) (da_cons (de_len U.f_len (da_cons (de_v 1) da_nil)) da_nil))))))
abbrev N_l_program : List Str := ["_law_row", "_law_machine_here", "_law_many", "_law_lines", "_law_turn"]
abbrev S_l_program : Scope := { kind := PySem.ScopeKind.function, names := [ (PySem.Str.ofString "_law_row", PySem.NameKind.cell), (PySem.Str.ofString "_law_machine_here", PySem.NameKind.local), (PySem.Str.ofString "_law_many", PySem.NameKind.local), (PySem.Str.ofString "_law_lines", PySem.NameKind.cell), (PySem.Str.ofString "_law_every_line", PySem.NameKind.globalImplicit), (PySem.Str.ofString "tuple", PySem.NameKind.globalImplicit), (PySem.Str.ofString "range", PySem.NameKind.globalImplicit), (PySem.Str.ofString "_law_taken", PySem.NameKind.globalImplicit)], isGenerator := false, isCoroutine := false, more := [ (PySem.Str.ofString "fast", (PySem.Const.str "_law_row")), (PySem.Str.ofString "fast", (PySem.Const.str "_law_machine_here")), (PySem.Str.ofString "fast", (PySem.Const.str "_law_many")), (PySem.Str.ofString "fast", (PySem.Const.str "_law_lines")), (PySem.Str.ofString "fast", (PySem.Const.str "_law_turn"))] : PySem.Scope }
theorem es_l_program : defScope (top 39) = S_l_program := by kernel_rfl
theorem fs_l_program : FnScope N_l_program ["_law_row", "_law_machine_here", "_law_many"] S_l_program := ⟨rfl, rfl, rfl, by decide +kernel, rfl, by decide +kernel, by decide +kernel⟩
theorem ok_l_program (U : Us P w K mg base T) : OkB P w K mg base ⟨⟨mg, K⟩, T, TL⟩ 3 "_law_program" (b_l_program) := by
  have c_l_every_line := ok_l_every_line (TL := TL) U
  have c_l_taken := ok_l_taken (TL := TL) U
  have c_l_pick := ok_l_pick (TL := TL) U
  obtain ⟨a, fd, F, hx⟩ := U.d_l_program
  unfold FnP at F
  rw [es_l_program] at F
  refine okB_of F hx fs_l_program (fun _ _ _ _ _ _ us hl => match us, hl with | [_, _, _], _ => rfl) fun cd A outer s H E hc hr => ?_
  have z := zCx_z (T := T) (TL := TL) (E := E) (H := H) (K := K) (mg := mg) (base := base) (P := P) (w := w) (outer := outer) fs_l_program.nd hr
  exact (ds_cons (ds_set (i := 3) z.nd (de_callA z (c_l_every_line.mono (by decide)) (da_cons (de_v 1) da_nil)))
      (ds_one (ds_ret (de_tuple U.f_tuple (da_cons (de_lc false z.calm z.nd (di_range1 rfl U.f_range (da_cons (de_callB z (c_l_taken.mono (by decide)) (da_cons (de_v 0) (da_cons (de_op (OpZ.q (oz_add false)) (de_v 2) de_int) da_nil))) da_nil)) (blkOk_by (own := [("_law_turn", 4)]) rfl) (fun _ _ _ _ _ => (dg_name (i := 4) (by decide) (z.blk).nd)) (fun _ _ _ _ _ => dts_nil) (fun _ _ _ _ _ => (de_callB (z.blk) (c_l_pick.mono (by decide)) (da_cons (de_v 0) (da_cons (de_v 3) da_nil))))) da_nil)))))
abbrev N_l_ran : List Str := ["_law_machine_here", "_law_program_here", "_law_losses", "_law_held", "_law_at", "_law_line", "_law_term"]
abbrev S_l_ran : Scope := { kind := PySem.ScopeKind.function, names := [ (PySem.Str.ofString "_law_machine_here", PySem.NameKind.local), (PySem.Str.ofString "_law_program_here", PySem.NameKind.local), (PySem.Str.ofString "_law_losses", PySem.NameKind.local), (PySem.Str.ofString "_law_held", PySem.NameKind.local), (PySem.Str.ofString "_law_at", PySem.NameKind.local), (PySem.Str.ofString "_law_line", PySem.NameKind.local), (PySem.Str.ofString "tuple", PySem.NameKind.globalImplicit), (PySem.Str.ofString "range", PySem.NameKind.globalImplicit), (PySem.Str.ofString "enumerate", PySem.NameKind.globalImplicit), (PySem.Str.ofString "_law_did", PySem.NameKind.globalImplicit), (PySem.Str.ofString "max", PySem.NameKind.globalImplicit)], isGenerator := false, isCoroutine := false, more := [ (PySem.Str.ofString "fast", (PySem.Const.str "_law_machine_here")), (PySem.Str.ofString "fast", (PySem.Const.str "_law_program_here")), (PySem.Str.ofString "fast", (PySem.Const.str "_law_losses")), (PySem.Str.ofString "fast", (PySem.Const.str "_law_held")), (PySem.Str.ofString "fast", (PySem.Const.str "_law_at")), (PySem.Str.ofString "fast", (PySem.Const.str "_law_line")), (PySem.Str.ofString "fast", (PySem.Const.str "_law_term"))] : PySem.Scope }
theorem es_l_ran : defScope (top 40) = S_l_ran := by kernel_rfl
theorem fs_l_ran : FnScope N_l_ran ["_law_machine_here", "_law_program_here", "_law_losses"] S_l_ran := ⟨rfl, rfl, rfl, by decide +kernel, rfl, by decide +kernel, by decide +kernel⟩
theorem ok_l_ran (U : Us P w K mg base T) : OkA P w K mg base ⟨⟨mg, K⟩, T, TL⟩ 12 "_law_ran" (a_l_ran) := by
  have c_l_did := ok_l_did (TL := TL) U
  have c_l_deep := ok_l_deep (TL := TL) U
  obtain ⟨a, fd, F, hx⟩ := U.d_l_ran
  unfold FnP at F
  rw [es_l_ran] at F
  refine okA_of F hx fs_l_ran (fun _ _ _ _ _ _ us hl => match us, hl with | [_, _, _], _ => rfl) fun cd A outer s H E hc hr => ?_
  have z := zCx_z (T := T) (TL := TL) (E := E) (H := H) (K := K) (mg := mg) (base := base) (P := P) (w := w) (outer := outer) fs_l_ran.nd hr
  have po := zCx_po (P := P) (w := w) (K := K) (mg := mg) (base := base) (N := N_l_ran) (qual := "_law_ran") (scope := S_l_ran) (f := a) (cd := cd) (A := A) (outer := outer) (s := s) (H := H) (E := E)
  exact (ds_cons (ds_set (i := 3) z.nd (de_tupRg z.calm U.f_tuple U.f_range (de_ix (de_v 0) de_int)))
      (ds_cons (ds_for (ws := [4, 5]) po z.calm (di_enum rfl U.f_enumerate (de_v 1)) (dg_tup z.calm (dgs_cons (dg_name (i := 4) (by decide) z.nd) (dgs_cons (dg_name (i := 5) (by decide) z.nd) dgs_nil)) (gl_cons (gl_cons gl_nil))) (ds_one (ds_if (dt_cmp (OpZ.q (oz_notIn z.u65)) (de_v 4) (de_v 2)) (ds_cons (ds_set (i := 3) z.nd (de_callA z (c_l_did.mono (by decide)) (da_cons (de_v 3) (da_cons (de_v 5) da_nil))))
      (ds_one (ds_if (dt_cmp (OpZ.q oz_gt) (de_max z.calm U.f_max (da_cons (de_lc false z.calm z.nd (di_it (de_v 3)) (blkOk_by (own := [("_law_term", 6)]) rfl) (fun _ _ _ _ _ => (dg_name (i := 6) (by decide) (z.blk).nd)) (fun _ _ _ _ _ => dts_nil) (fun _ _ _ _ _ => (de_callA (z.blk) (c_l_deep.mono (by decide)) (da_cons (de_v 6) da_nil)))) da_nil)) de_int) (ds_one (ds_ret de_non)) ds_nil))) ds_nil)))
      (ds_one (ds_ret (de_v 3)))))
abbrev N_l_wishes : List Str := ["_law_row", "_law_machine_here", "_law_some", "_law_program_here", "_law_held", "_law_cell"]
abbrev S_l_wishes : Scope := { kind := PySem.ScopeKind.function, names := [ (PySem.Str.ofString "_law_row", PySem.NameKind.cell), (PySem.Str.ofString "_law_machine_here", PySem.NameKind.cell), (PySem.Str.ofString "_law_program_here", PySem.NameKind.local), (PySem.Str.ofString "_law_held", PySem.NameKind.cell), (PySem.Str.ofString "_law_some", PySem.NameKind.local), (PySem.Str.ofString "_law_taken", PySem.NameKind.globalImplicit), (PySem.Str.ofString "_law_tame", PySem.NameKind.globalImplicit), (PySem.Str.ofString "_law_program", PySem.NameKind.globalImplicit), (PySem.Str.ofString "_law_ran", PySem.NameKind.globalImplicit), (PySem.Str.ofString "tuple", PySem.NameKind.globalImplicit), (PySem.Str.ofString "range", PySem.NameKind.globalImplicit)], isGenerator := false, isCoroutine := false, more := [ (PySem.Str.ofString "fast", (PySem.Const.str "_law_row")), (PySem.Str.ofString "fast", (PySem.Const.str "_law_machine_here")), (PySem.Str.ofString "fast", (PySem.Const.str "_law_program_here")), (PySem.Str.ofString "fast", (PySem.Const.str "_law_held")), (PySem.Str.ofString "fast", (PySem.Const.str "_law_cell")), (PySem.Str.ofString "fast", (PySem.Const.str "_law_some"))] : PySem.Scope }
theorem es_l_wishes : defScope (top 41) = S_l_wishes := by kernel_rfl
theorem fs_l_wishes : FnScope N_l_wishes ["_law_row", "_law_machine_here"] S_l_wishes := ⟨rfl, rfl, rfl, by decide +kernel, rfl, by decide +kernel, by decide +kernel⟩
theorem ok_l_wishes (U : Us P w K mg base T) : OkB P w K mg base ⟨⟨mg, K⟩, T, TL⟩ 13 "_law_wishes" (b_l_wishes) := by
  have c_l_taken := ok_l_taken (TL := TL) U
  have c_l_tame := ok_l_tame (TL := TL) U
  have c_l_program := ok_l_program (TL := TL) U
  have c_l_ran := ok_l_ran (TL := TL) U
  have c_l_pick := ok_l_pick (TL := TL) U
  obtain ⟨a, fd, F, hx⟩ := U.d_l_wishes
  unfold FnP at F
  rw [es_l_wishes] at F
  refine okB_of F hx fs_l_wishes (fun _ _ _ _ _ _ us hl => match us, hl with | [_, _], _ => rfl) fun cd A outer s H E hc hr => ?_
  have z := zCx_z (T := T) (TL := TL) (E := E) (H := H) (K := K) (mg := mg) (base := base) (P := P) (w := w) (outer := outer) fs_l_wishes.nd hr
  exact (ds_cons (ds_if (dt_cmp (OpZ.q oz_gt) (de_callB z (c_l_taken.mono (by decide)) (da_cons (de_v 0) (da_cons de_int da_nil))) de_int) (ds_cons (ds_set (i := 3) z.nd (de_callA z (c_l_tame.mono (by decide)) (da_cons (de_v 1) (da_cons (de_callB z (c_l_program.mono (by decide)) (da_cons (de_v 0) (da_cons (de_v 1) (da_cons de_int da_nil)))) da_nil))))
      (ds_one (ds_set (i := 4) z.nd (de_callA z (c_l_ran.mono (by decide)) (da_cons (de_v 1) (da_cons (de_v 3) (da_cons (de_tup da_nil) da_nil))))))) (ds_one (ds_set (i := 4) z.nd (de_tuple U.f_tuple (da_cons (de_lc false z.calm z.nd (di_range1 rfl U.f_range (da_cons (de_ix (de_v 1) de_int) da_nil)) (blkOk_by (own := [("_law_cell", 5)]) rfl) (fun _ _ _ _ _ => (dg_name (i := 5) (by decide) (z.blk).nd)) (fun _ _ _ _ _ => dts_nil) (fun _ _ _ _ _ => (de_callB (z.blk) (c_l_pick.mono (by decide)) (da_cons (de_v 0) (da_cons (de_lst false (da_cons de_int (da_cons (de_op (OpZ.q (oz_add false)) (de_tup (da_cons de_int da_nil)) (de_op (OpZ.q oz_mul) (de_tup (da_cons de_int da_nil)) (de_ix (de_ix (de_v 1) de_int) de_int))) da_nil))) da_nil))))) da_nil)))))
      (ds_cons (ds_setLc (i := 2) false z.calm z.nd rfl rfl rfl (di_range1 rfl U.f_range (da_cons (de_ix (de_v 1) de_int) da_nil)) (blkOk_by (own := [("_law_cell", 5)]) rfl) (fun _ _ _ _ _ => (dg_name (i := 5) (by decide) (z.blk).nd)) (fun _ _ _ _ _ => (dts_one (dt_cmp (OpZ.q oz_gt) (de_callB (z.blk) (c_l_taken.mono (by decide)) (da_cons (de_v 0) (da_cons de_int da_nil))) de_int))) (fun _ _ _ _ _ => (de_tup (da_cons (de_v 5) (da_cons (de_ix (de_v 4) (de_v 5)) da_nil)))))
      (ds_one (ds_ret (de_if (dt_cmp (OpZ.q (oz_ne z.room.units)) (de_v 2) (de_lst false da_nil)) (de_tuple U.f_tuple (da_cons (de_v 2) da_nil)) (de_tup (da_cons (de_tup (da_cons de_int (da_cons (de_ix (de_v 4) de_int) da_nil))) da_nil)))))))
abbrev N_l_every_loss : List Str := ["_law_size", "_law_many", "_law_found", "_law_at", "_law_more", "_law_losses"]
abbrev S_l_every_loss : Scope := { kind := PySem.ScopeKind.function, names := [ (PySem.Str.ofString "_law_size", PySem.NameKind.local), (PySem.Str.ofString "_law_many", PySem.NameKind.local), (PySem.Str.ofString "_law_found", PySem.NameKind.local), (PySem.Str.ofString "_law_at", PySem.NameKind.local), (PySem.Str.ofString "_law_more", PySem.NameKind.local), (PySem.Str.ofString "_law_losses", PySem.NameKind.local), (PySem.Str.ofString "range", PySem.NameKind.globalImplicit), (PySem.Str.ofString "tuple", PySem.NameKind.globalImplicit)], isGenerator := false, isCoroutine := false, more := [] : PySem.Scope }
theorem es_l_every_loss : defScope (top 42) = S_l_every_loss := by kernel_rfl
theorem fs_l_every_loss : FnScope N_l_every_loss ["_law_size", "_law_many"] S_l_every_loss := ⟨rfl, rfl, rfl, by decide +kernel, rfl, by decide +kernel, by decide +kernel⟩
theorem ok_l_every_loss (U : Us P w K mg base T) : OkA P w K mg base ⟨⟨mg, K⟩, T, TL⟩ 1 "_law_every_loss" (a_l_every_loss) := by
  obtain ⟨a, fd, F, hx⟩ := U.d_l_every_loss
  unfold FnP at F
  rw [es_l_every_loss] at F
  refine okA_of F hx fs_l_every_loss (fun _ _ _ _ _ _ us hl => match us, hl with | [_, _], _ => rfl) fun cd A outer s H E hc hr => ?_
  have z := zCx_z (T := T) (TL := TL) (E := E) (H := H) (K := K) (mg := mg) (base := base) (P := P) (w := w) (outer := outer) fs_l_every_loss.nd hr
  have po := zCx_po (P := P) (w := w) (K := K) (mg := mg) (base := base) (N := N_l_every_loss) (qual := "_law_every_loss") (scope := S_l_every_loss) (f := a) (cd := cd) (A := A) (outer := outer) (s := s) (H := H) (E := E)
  exact (ds_cons (ds_set (i := 2) z.nd (de_lst false (da_cons (de_tup da_nil) da_nil)))
      (ds_cons (ds_for (ws := [3]) po z.calm (di_range1 rfl U.f_range (da_cons (de_v 0) da_nil)) (dg_name (i := 3) (by decide) z.nd) (ds_cons (ds_set (i := 4) z.nd (de_lst true da_nil))
      (ds_cons (ds_for (ws := [5]) po z.calm (di_it (de_v 2)) (dg_name (i := 5) (by decide) z.nd) (ds_one (ds_if (dt_cmp (OpZ.q (oz_ne z.room.units)) (de_sl false (de_v 5) (do_some (de_neg (de_v 1))) do_none) (de_tupRg2 z.calm U.f_tuple U.f_range (de_op (OpZ.q oz_subI) (de_v 3) (de_v 1)) (de_v 3))) (ds_one (ds_expr (de_append (de_v 4) (da_cons (de_op (OpZ.q (oz_add false)) (de_v 5) (de_tup (da_cons (de_v 3) da_nil))) da_nil)))) ds_nil)))
      (ds_one (ds_set (i := 2) z.nd (de_op (OpZ.q (oz_add false)) (de_v 2) (de_v 4)))))))
      (ds_one (ds_ret (de_v 2)))))
abbrev N_l_alike : List Str := ["_law_found", "_law_due", "_law_k"]
abbrev S_l_alike : Scope := { kind := PySem.ScopeKind.function, names := [ (PySem.Str.ofString "_law_found", PySem.NameKind.cell), (PySem.Str.ofString "_law_due", PySem.NameKind.cell), (PySem.Str.ofString "isinstance", PySem.NameKind.globalImplicit), (PySem.Str.ofString "tuple", PySem.NameKind.globalImplicit), (PySem.Str.ofString "list", PySem.NameKind.globalImplicit), (PySem.Str.ofString "len", PySem.NameKind.globalImplicit), (PySem.Str.ofString "range", PySem.NameKind.globalImplicit), (PySem.Str.ofString "str", PySem.NameKind.globalImplicit), (PySem.Str.ofString "int", PySem.NameKind.globalImplicit), (PySem.Str.ofString "bool", PySem.NameKind.globalImplicit)], isGenerator := false, isCoroutine := false, more := [ (PySem.Str.ofString "fast", (PySem.Const.str "_law_found")), (PySem.Str.ofString "fast", (PySem.Const.str "_law_due")), (PySem.Str.ofString "fast", (PySem.Const.str "_law_k"))] : PySem.Scope }
theorem es_l_alike : defScope (top 43) = S_l_alike := by kernel_rfl
theorem fs_l_alike : FnScope N_l_alike ["_law_found", "_law_due"] S_l_alike := ⟨rfl, rfl, rfl, by decide +kernel, rfl, by decide +kernel, by decide +kernel⟩
theorem ro_l_alike (U : Us P w K mg base T) : ∀ n, OkA P w K mg base ⟨⟨mg, K⟩, T, TL⟩ (1 + 1 * n) "_law_alike" (r_l_alike n)
  | 0 => by
    obtain ⟨a, fd, F, hx⟩ := U.d_l_alike
    unfold FnP at F
    rw [es_l_alike] at F
    have h := okA_of F hx fs_l_alike (fun _ _ _ _ _ _ us hl => match us, hl with | [_, _], _ => rfl) (P := P) (w := w) (base := base) (T := T) (TL := TL) (k := 0) (m := fun _ _ => .stuck) fun cd A outer s H E hc hr => dss_never
    exact okA_never h (by omega)
  | n + 1 => by
    have ih := ro_l_alike U n
    obtain ⟨a, fd, F, hx⟩ := U.d_l_alike
    unfold FnP at F
    rw [es_l_alike] at F
    have h := okA_of F hx fs_l_alike (fun _ _ _ _ _ _ us hl => match us, hl with | [_, _], _ => rfl) (P := P) (w := w) (base := base) (T := T) (TL := TL) (k := 1 + 1 * n) (m := m_l_alike (r_l_alike n)) fun cd A outer s H E hc hr => by
      have z := zCx_z (T := T) (TL := TL) (E := E) (H := H) (K := K) (mg := mg) (base := base) (P := P) (w := w) (outer := outer) fs_l_alike.nd hr
      exact (ds_cons (ds_if (dt_val (de_isiTL U.f_isinstance U.f_tuple U.f_list (de_v 1))) (ds_cons (ds_if (dt_w (dw_or (dt_not (dt_val (de_isiTL U.f_isinstance U.f_tuple U.f_list (de_v 0)))) (dw_or1 (dt_cmp (OpZ.q (oz_ne z.room.units)) (de_isi kit_lst U.f_isinstance U.f_list boot_list (de_v 0)) (de_isi kit_lst U.f_isinstance U.f_list boot_list (de_v 1)))))) (ds_one (ds_ret de_bl)) ds_nil)
      (ds_cons (ds_if (dt_cmp (OpZ.q (oz_ne z.room.units)) (de_len U.f_len (da_cons (de_v 0) da_nil)) (de_len U.f_len (da_cons (de_v 1) da_nil))) (ds_one (ds_ret de_bl)) ds_nil)
      (ds_one (ds_ret (de_cmp (OpZ.q (oz_eq z.room.units)) (de_lc false z.calm z.nd (di_range1 rfl U.f_range (da_cons (de_len U.f_len (da_cons (de_v 1) da_nil)) da_nil)) (blkOk_by (own := [("_law_k", 2)]) rfl) (fun _ _ _ _ _ => (dg_name (i := 2) (by decide) (z.blk).nd)) (fun _ _ _ _ _ => (dts_one (dt_not (dt_tru (de_callA (z.blk) (ih.mono (by omega)) (da_cons (de_ix (de_v 0) (de_v 2)) (da_cons (de_ix (de_v 1) (de_v 2)) da_nil))))))) (fun _ _ _ _ _ => (de_v 2))) (de_lst false da_nil)))))) ds_nil)
      (ds_cons (ds_if (dt_w (dw_or (dt_isN (de_v 1)) (dw_or1 (dt_val (de_isi kit_str U.f_isinstance U.f_str boot_str (de_v 1)))))) (ds_one (ds_ret (de_and (de_cmp (OpZ.q (oz_eq z.room.units)) (de_v 0) (de_v 1)) (de_one (de_cmp (OpZ.q (oz_eq z.room.units)) (de_isi kit_str U.f_isinstance U.f_str boot_str (de_v 0)) (de_isi kit_str U.f_isinstance U.f_str boot_str (de_v 1))))))) ds_nil)
      (ds_one (ds_ret (de_and (de_isi kit_int U.f_isinstance U.f_int boot_int (de_v 0)) (de_and (de_cmp (OpZ.q (oz_eq z.room.units)) (de_isi kit_bool U.f_isinstance U.f_bool boot_bool (de_v 0)) (de_isi kit_bool U.f_isinstance U.f_bool boot_bool (de_v 1))) (de_one (de_cmp (OpZ.q (oz_eq z.room.units)) (de_v 0) (de_v 1)))))))))
    exact h.mono (by omega)
theorem ok_l_alike (U : Us P w K mg base T) : OkA P w K mg base ⟨⟨mg, K⟩, T, TL⟩ 5 "_law_alike" (a_l_alike) := ro_l_alike U 4
abbrev N_is_number : List Str := ["value", "low", "high"]
abbrev S_is_number : Scope := { kind := PySem.ScopeKind.function, names := [ (PySem.Str.ofString "value", PySem.NameKind.local), (PySem.Str.ofString "low", PySem.NameKind.local), (PySem.Str.ofString "high", PySem.NameKind.local), (PySem.Str.ofString "isinstance", PySem.NameKind.globalImplicit), (PySem.Str.ofString "int", PySem.NameKind.globalImplicit), (PySem.Str.ofString "bool", PySem.NameKind.globalImplicit)], isGenerator := false, isCoroutine := false, more := [] : PySem.Scope }
theorem es_is_number : defScope (top 13) = S_is_number := by kernel_rfl
theorem fs_is_number : FnScope N_is_number ["value", "low", "high"] S_is_number := ⟨rfl, rfl, rfl, by decide +kernel, rfl, by decide +kernel, by decide +kernel⟩
theorem ok_is_number (U : Us P w K mg base T) : OkA P w K mg base ⟨⟨mg, K⟩, T, TL⟩ 1 "is_number" (a_is_number) := by
  obtain ⟨a, fd, F, hx⟩ := U.d_is_number
  unfold FnP at F
  rw [es_is_number] at F
  refine okA_of F hx fs_is_number (fun _ _ _ _ _ _ us hl => match us, hl with | [_, _, _], _ => rfl) fun cd A outer s H E hc hr => ?_
  have z := zCx_z (T := T) (TL := TL) (E := E) (H := H) (K := K) (mg := mg) (base := base) (P := P) (w := w) (outer := outer) fs_is_number.nd hr
  exact (ds_one (ds_ret (de_and (de_isi kit_int U.f_isinstance U.f_int boot_int (de_v 0)) (de_and (de_not (de_isi kit_bool U.f_isinstance U.f_bool boot_bool (de_v 0))) (de_one (de_chain (OpZ.q oz_le) (OpZ.q oz_le) (de_v 1) (de_v 0) (de_v 2)))))))
abbrev N_need_machine : List Str := ["value", "cells", "functions", "reads"]
abbrev S_need_machine : Scope := { kind := PySem.ScopeKind.function, names := [ (PySem.Str.ofString "value", PySem.NameKind.local), (PySem.Str.ofString "cells", PySem.NameKind.local), (PySem.Str.ofString "functions", PySem.NameKind.local), (PySem.Str.ofString "isinstance", PySem.NameKind.globalImplicit), (PySem.Str.ofString "tuple", PySem.NameKind.globalImplicit), (PySem.Str.ofString "len", PySem.NameKind.globalImplicit), (PySem.Str.ofString "BadMachine", PySem.NameKind.globalImplicit), (PySem.Str.ofString "is_number", PySem.NameKind.globalImplicit), (PySem.Str.ofString "MOST_CELLS", PySem.NameKind.globalImplicit), (PySem.Str.ofString "MOST_FUNCTIONS", PySem.NameKind.globalImplicit), (PySem.Str.ofString "all", PySem.NameKind.globalImplicit)], isGenerator := false, isCoroutine := false, more := [] : PySem.Scope }
theorem es_need_machine : defScope (top 14) = S_need_machine := by kernel_rfl
theorem fs_need_machine : FnScope N_need_machine ["value"] S_need_machine := ⟨rfl, rfl, rfl, by decide +kernel, rfl, by decide +kernel, by decide +kernel⟩
theorem ok_need_machine (U : Us P w K mg base T) : OkA P w K mg base ⟨⟨mg, K⟩, T, TL⟩ 6 "need_machine" (a_need_machine) := by
  obtain ⟨t_MOST_CELLS, g_MOST_CELLS⟩ := U.g_MOST_CELLS
  obtain ⟨t_MOST_FUNCTIONS, g_MOST_FUNCTIONS⟩ := U.g_MOST_FUNCTIONS
  obtain ⟨t_MOST_READ, g_MOST_READ⟩ := U.g_MOST_READ
  have c_is_number := ok_is_number (TL := TL) U
  obtain ⟨a, fd, F, hx⟩ := U.d_need_machine
  unfold FnP at F
  rw [es_need_machine] at F
  refine okA_of F hx fs_need_machine (fun _ _ _ _ _ _ us hl => match us, hl with | [_], _ => rfl) fun cd A outer s H E hc hr => ?_
  have z := zCx_z (T := T) (TL := TL) (E := E) (H := H) (K := K) (mg := mg) (base := base) (P := P) (w := w) (outer := outer) fs_need_machine.nd hr
  obtain ⟨oc, od, osl, lk, ecd⟩ := hc
  obtain ⟨cda, tp, hcd, TB, hP⟩ := U.t_need_machine a fd oc od osl hx lk
  rw [ecd] at hcd
  exact (ds_cons (ds_if (dt_w (dw_or (dt_not (dt_val (de_isi kit_tup U.f_isinstance U.f_tuple boot_tuple (de_v 0)))) (dw_or1 (dt_cmp (OpZ.q (oz_ne z.room.units)) (de_len U.f_len (da_cons (de_v 0) da_nil)) de_int)))) (ds_one ds_never) ds_nil)
      (ds_cons (ds_asg (ws := [1, 2]) (de_v 0) (dg_tup z.calm (dgs_cons (dg_name (i := 1) (by decide) z.nd) (dgs_cons (dg_name (i := 2) (by decide) z.nd) dgs_nil)) (gl_cons (gl_cons gl_nil))))
      (ds_cons (ds_if (dt_not (dt_tru (de_callA z (c_is_number.mono (by decide)) (da_cons (de_v 1) (da_cons de_int (da_cons (de_gi g_MOST_CELLS) da_nil)))))) (ds_one ds_never) ds_nil)
      (ds_cons (ds_if (dt_w (dw_or (dt_not (dt_val (de_isi kit_tup U.f_isinstance U.f_tuple boot_tuple (de_v 2)))) (dw_or1 (dt_not (dt_chain (OpZ.q oz_le) (OpZ.q oz_le) de_int (de_len U.f_len (da_cons (de_v 2) da_nil)) (de_gi g_MOST_FUNCTIONS)))))) (ds_one ds_never) ds_nil)
      (ds_one (ds_if (dt_not (dt_val (de_gen false (k := 1) (z.room.mono (by omega)) rfl rfl U.f_all TB hcd hP (gxOk_by (own := [("reads", 3)]) rfl) z.nd (di_it (de_v 2)) (fun _ _ _ _ _ _ _ hrg => (dg_name (i := 3) (by decide) (z.gx hrg).nd)) (fun _ _ _ _ _ _ _ hrg => (de_callA (z.gx hrg) (c_is_number.mono (by decide)) (da_cons (de_v 3) (da_cons de_int (da_cons (de_gi g_MOST_READ) da_nil)))))))) (ds_one ds_never) ds_nil))))))
abbrev N_is_line : List Str := ["machine", "value", "cells", "functions", "cell", "function", "sources", "source"]
abbrev S_is_line : Scope := { kind := PySem.ScopeKind.function, names := [ (PySem.Str.ofString "machine", PySem.NameKind.local), (PySem.Str.ofString "value", PySem.NameKind.local), (PySem.Str.ofString "functions", PySem.NameKind.local), (PySem.Str.ofString "cell", PySem.NameKind.local), (PySem.Str.ofString "function", PySem.NameKind.local), (PySem.Str.ofString "sources", PySem.NameKind.local), (PySem.Str.ofString "cells", PySem.NameKind.cell), (PySem.Str.ofString "isinstance", PySem.NameKind.globalImplicit), (PySem.Str.ofString "tuple", PySem.NameKind.globalImplicit), (PySem.Str.ofString "len", PySem.NameKind.globalImplicit), (PySem.Str.ofString "is_number", PySem.NameKind.globalImplicit), (PySem.Str.ofString "all", PySem.NameKind.globalImplicit)], isGenerator := false, isCoroutine := false, more := [] : PySem.Scope }
theorem es_is_line : defScope (top 15) = S_is_line := by kernel_rfl
theorem fs_is_line : FnScope N_is_line ["machine", "value"] S_is_line := ⟨rfl, rfl, rfl, by decide +kernel, rfl, by decide +kernel, by decide +kernel⟩
theorem ok_is_line (U : Us P w K mg base T) : OkA P w K mg base ⟨⟨mg, K⟩, T, TL⟩ 6 "is_line" (a_is_line) := by
  have c_is_number := ok_is_number (TL := TL) U
  obtain ⟨a, fd, F, hx⟩ := U.d_is_line
  unfold FnP at F
  rw [es_is_line] at F
  refine okA_of F hx fs_is_line (fun _ _ _ _ _ _ us hl => match us, hl with | [_, _], _ => rfl) fun cd A outer s H E hc hr => ?_
  have z := zCx_z (T := T) (TL := TL) (E := E) (H := H) (K := K) (mg := mg) (base := base) (P := P) (w := w) (outer := outer) fs_is_line.nd hr
  obtain ⟨oc, od, osl, lk, ecd⟩ := hc
  obtain ⟨cda, tp, hcd, TB, hP⟩ := U.t_is_line a fd oc od osl hx lk
  rw [ecd] at hcd
  exact (ds_cons (ds_asg (ws := [2, 3]) (de_v 0) (dg_tup z.calm (dgs_cons (dg_name (i := 2) (by decide) z.nd) (dgs_cons (dg_name (i := 3) (by decide) z.nd) dgs_nil)) (gl_cons (gl_cons gl_nil))))
      (ds_cons (ds_if (dt_w (dw_or (dt_not (dt_val (de_isi kit_tup U.f_isinstance U.f_tuple boot_tuple (de_v 1)))) (dw_or (dt_cmp (OpZ.q (oz_ne z.room.units)) (de_len U.f_len (da_cons (de_v 1) da_nil)) de_int) (dw_or1 (dt_not (dt_tru (de_callA z (c_is_number.mono (by decide)) (da_cons (de_ix (de_v 1) de_int) (da_cons de_int (da_cons (de_op (OpZ.q oz_subI) (de_v 2) de_int) da_nil)))))))))) (ds_one (ds_ret de_bl)) ds_nil)
      (ds_cons (ds_asg (ws := [4, 5, 6]) (de_v 1) (dg_tup z.calm (dgs_cons (dg_name (i := 4) (by decide) z.nd) (dgs_cons (dg_name (i := 5) (by decide) z.nd) (dgs_cons (dg_name (i := 6) (by decide) z.nd) dgs_nil))) (gl_cons (gl_cons (gl_cons gl_nil)))))
      (ds_cons (ds_if (dt_w (dw_or (dt_not (dt_val (de_isi kit_tup U.f_isinstance U.f_tuple boot_tuple (de_v 6)))) (dw_or1 (dt_not (dt_val (de_gen false (k := 1) (z.room.mono (by omega)) rfl rfl U.f_all TB hcd hP (gxOk_by (own := [("source", 7)]) rfl) z.nd (di_it (de_v 6)) (fun _ _ _ _ _ _ _ hrg => (dg_name (i := 7) (by decide) (z.gx hrg).nd)) (fun _ _ _ _ _ _ _ hrg => (de_callA (z.gx hrg) (c_is_number.mono (by decide)) (da_cons (de_v 7) (da_cons de_int (da_cons (de_op (OpZ.q oz_subI) (de_v 2) de_int) da_nil))))))))))) (ds_one (ds_ret de_bl)) ds_nil)
      (ds_cons (ds_if (dt_isN (de_v 5)) (ds_one (ds_ret (de_and (de_cmp (OpZ.q (oz_eq z.room.units)) (de_len U.f_len (da_cons (de_v 6) da_nil)) de_int) (de_one (de_cmp (OpZ.q (oz_ne z.room.units)) (de_ix (de_v 6) de_int) (de_v 4)))))) ds_nil)
      (ds_one (ds_ret (de_and (de_callA z (c_is_number.mono (by decide)) (da_cons (de_v 5) (da_cons de_int (da_cons (de_op (OpZ.q oz_subI) (de_len U.f_len (da_cons (de_v 3) da_nil)) de_int) da_nil)))) (de_one (de_cmp (OpZ.q (oz_eq z.room.units)) (de_len U.f_len (da_cons (de_v 6) da_nil)) (de_ix (de_v 3) (de_v 5))))))))))))
abbrev N_need_program : List Str := ["machine", "value", "index", "line"]
abbrev S_need_program : Scope := { kind := PySem.ScopeKind.function, names := [ (PySem.Str.ofString "machine", PySem.NameKind.local), (PySem.Str.ofString "value", PySem.NameKind.local), (PySem.Str.ofString "index", PySem.NameKind.local), (PySem.Str.ofString "line", PySem.NameKind.local), (PySem.Str.ofString "isinstance", PySem.NameKind.globalImplicit), (PySem.Str.ofString "tuple", PySem.NameKind.globalImplicit), (PySem.Str.ofString "len", PySem.NameKind.globalImplicit), (PySem.Str.ofString "MOST_LINES", PySem.NameKind.globalImplicit), (PySem.Str.ofString "BadProgram", PySem.NameKind.globalImplicit), (PySem.Str.ofString "enumerate", PySem.NameKind.globalImplicit), (PySem.Str.ofString "is_line", PySem.NameKind.globalImplicit)], isGenerator := false, isCoroutine := false, more := [] : PySem.Scope }
theorem es_need_program : defScope (top 16) = S_need_program := by kernel_rfl
theorem fs_need_program : FnScope N_need_program ["machine", "value"] S_need_program := ⟨rfl, rfl, rfl, by decide +kernel, rfl, by decide +kernel, by decide +kernel⟩
theorem ok_need_program (U : Us P w K mg base T) : OkA P w K mg base ⟨⟨mg, K⟩, T, TL⟩ 7 "need_program" (a_need_program) := by
  obtain ⟨t_MOST_LINES, g_MOST_LINES⟩ := U.g_MOST_LINES
  have c_is_line := ok_is_line (TL := TL) U
  obtain ⟨a, fd, F, hx⟩ := U.d_need_program
  unfold FnP at F
  rw [es_need_program] at F
  refine okA_of F hx fs_need_program (fun _ _ _ _ _ _ us hl => match us, hl with | [_, _], _ => rfl) fun cd A outer s H E hc hr => ?_
  have z := zCx_z (T := T) (TL := TL) (E := E) (H := H) (K := K) (mg := mg) (base := base) (P := P) (w := w) (outer := outer) fs_need_program.nd hr
  have po := zCx_po (P := P) (w := w) (K := K) (mg := mg) (base := base) (N := N_need_program) (qual := "need_program") (scope := S_need_program) (f := a) (cd := cd) (A := A) (outer := outer) (s := s) (H := H) (E := E)
  exact (ds_cons (ds_if (dt_w (dw_or (dt_not (dt_val (de_isi kit_tup U.f_isinstance U.f_tuple boot_tuple (de_v 1)))) (dw_or1 (dt_cmp (OpZ.q oz_gt) (de_len U.f_len (da_cons (de_v 1) da_nil)) (de_gi g_MOST_LINES))))) (ds_one ds_never) ds_nil)
      (ds_one (ds_for (ws := [2, 3]) po z.calm (di_enum rfl U.f_enumerate (de_v 1)) (dg_tup z.calm (dgs_cons (dg_name (i := 2) (by decide) z.nd) (dgs_cons (dg_name (i := 3) (by decide) z.nd) dgs_nil)) (gl_cons (gl_cons gl_nil))) (ds_one (ds_if (dt_not (dt_tru (de_callA z (c_is_line.mono (by decide)) (da_cons (de_v 0) (da_cons (de_v 3) da_nil))))) (ds_one ds_never) ds_nil)))))
abbrev N_need_chance : List Str := ["value"]
abbrev S_need_chance : Scope := { kind := PySem.ScopeKind.function, names := [ (PySem.Str.ofString "value", PySem.NameKind.local), (PySem.Str.ofString "isinstance", PySem.NameKind.globalImplicit), (PySem.Str.ofString "tuple", PySem.NameKind.globalImplicit), (PySem.Str.ofString "len", PySem.NameKind.globalImplicit), (PySem.Str.ofString "is_number", PySem.NameKind.globalImplicit), (PySem.Str.ofString "MOST_BOTTOM", PySem.NameKind.globalImplicit), (PySem.Str.ofString "BadChance", PySem.NameKind.globalImplicit)], isGenerator := false, isCoroutine := false, more := [] : PySem.Scope }
theorem es_need_chance : defScope (top 29) = S_need_chance := by kernel_rfl
theorem fs_need_chance : FnScope N_need_chance ["value"] S_need_chance := ⟨rfl, rfl, rfl, by decide +kernel, rfl, by decide +kernel, by decide +kernel⟩
theorem ok_need_chance (U : Us P w K mg base T) : OkA P w K mg base ⟨⟨mg, K⟩, T, TL⟩ 2 "need_chance" (a_need_chance) := by
  obtain ⟨t_MOST_BOTTOM, g_MOST_BOTTOM⟩ := U.g_MOST_BOTTOM
  have c_is_number := ok_is_number (TL := TL) U
  obtain ⟨a, fd, F, hx⟩ := U.d_need_chance
  unfold FnP at F
  rw [es_need_chance] at F
  refine okA_of F hx fs_need_chance (fun _ _ _ _ _ _ us hl => match us, hl with | [_], _ => rfl) fun cd A outer s H E hc hr => ?_
  have z := zCx_z (T := T) (TL := TL) (E := E) (H := H) (K := K) (mg := mg) (base := base) (P := P) (w := w) (outer := outer) fs_need_chance.nd hr
  exact (ds_cons (ds_if (dt_w (dw_or (dt_not (dt_val (de_isi kit_tup U.f_isinstance U.f_tuple boot_tuple (de_v 0)))) (dw_or (dt_cmp (OpZ.q (oz_ne z.room.units)) (de_len U.f_len (da_cons (de_v 0) da_nil)) de_int) (dw_or1 (dt_not (dt_tru (de_callA z (c_is_number.mono (by decide)) (da_cons (de_ix (de_v 0) de_int) (da_cons de_int (da_cons (de_gi g_MOST_BOTTOM) da_nil)))))))))) (ds_one ds_never) ds_nil)
      (ds_one (ds_if (dt_not (dt_tru (de_callA z (c_is_number.mono (by decide)) (da_cons (de_ix (de_v 0) de_int) (da_cons de_int (da_cons (de_ix (de_v 0) de_int) da_nil)))))) (ds_one ds_never) ds_nil)))
abbrev N_is_term : List Str := ["machine", "value", "deep", "cells", "functions", "part"]
abbrev S_is_term : Scope := { kind := PySem.ScopeKind.function, names := [ (PySem.Str.ofString "machine", PySem.NameKind.cell), (PySem.Str.ofString "value", PySem.NameKind.local), (PySem.Str.ofString "deep", PySem.NameKind.cell), (PySem.Str.ofString "cells", PySem.NameKind.local), (PySem.Str.ofString "functions", PySem.NameKind.local), (PySem.Str.ofString "isinstance", PySem.NameKind.globalImplicit), (PySem.Str.ofString "tuple", PySem.NameKind.globalImplicit), (PySem.Str.ofString "is_number", PySem.NameKind.globalImplicit), (PySem.Str.ofString "len", PySem.NameKind.globalImplicit), (PySem.Str.ofString "all", PySem.NameKind.globalImplicit)], isGenerator := false, isCoroutine := false, more := [] : PySem.Scope }
theorem es_is_term : defScope (top 18) = S_is_term := by kernel_rfl
theorem fs_is_term : FnScope N_is_term ["machine", "value", "deep"] S_is_term := ⟨rfl, rfl, rfl, by decide +kernel, rfl, by decide +kernel, by decide +kernel⟩
theorem ro_is_term (U : Us P w K mg base T) : ∀ n, OkAD P w K mg base ⟨⟨mg, K⟩, T, TL⟩ (5 + 5 * n) "is_term" [.int 8] (r_is_term n) ∧ OkAD P w K mg base ⟨⟨mg, K⟩, T, TL⟩ (5 + 5 * n) "is_term" [] (r_is_term n)
  | 0 => by
    refine ⟨?_, ?_⟩
    · obtain ⟨a, fd, F, hx⟩ := U.d_is_term
      unfold FnP at F
      rw [es_is_term] at F
      have h := okAD_of F hx fs_is_term (F.binds1 2 0 (by decide) rfl fun _ _ _ _ _ _ _ us its hl hi => match us, its, hl, hi with | [_, _], [_], _, _ => ⟨_, rfl, rfl⟩) (P := P) (w := w) (base := base) (T := T) (TL := TL) (k := 4) (m := fun _ _ => .stuck) fun cd A outer s H E hc hr => dss_never
      exact okAD_never h (by omega)
    · obtain ⟨a, fd, F, hx⟩ := U.d_is_term
      unfold FnP at F
      rw [es_is_term] at F
      have h := okAD_of F hx fs_is_term (F.binds1 3 1 (by decide) rfl fun _ _ _ _ _ _ _ us its hl hi => match us, its, hl, hi with | [_, _, _], [_], _, _ => ⟨_, rfl, rfl⟩) (P := P) (w := w) (base := base) (T := T) (TL := TL) (k := 4) (m := fun _ _ => .stuck) fun cd A outer s H E hc hr => dss_never
      exact okAD_never h (by omega)
  | n + 1 => by
    skip
    obtain ⟨ih2, ih3⟩ := ro_is_term U n
    have c_is_number := ok_is_number (TL := TL) U
    refine ⟨?_, ?_⟩
    · obtain ⟨a, fd, F, hx⟩ := U.d_is_term
      unfold FnP at F
      rw [es_is_term] at F
      have h := okAD_of F hx fs_is_term (F.binds1 2 0 (by decide) rfl fun _ _ _ _ _ _ _ us its hl hi => match us, its, hl, hi with | [_, _], [_], _, _ => ⟨_, rfl, rfl⟩) (P := P) (w := w) (base := base) (T := T) (TL := TL) (k := 9 + 5 * n) (m := m_is_term (r_is_term n)) fun cd A outer s H E hc hr => by
        have z := zCx_z (T := T) (TL := TL) (E := E) (H := H) (K := K) (mg := mg) (base := base) (P := P) (w := w) (outer := outer) fs_is_term.nd hr
        obtain ⟨oc, od, osl, lk, ecd⟩ := hc
        obtain ⟨cda, tp, hcd, TB, hP⟩ := U.t_is_term a fd oc od osl hx lk
        rw [ecd] at hcd
        exact (ds_cons (ds_asg (ws := [3, 4]) (de_v 0) (dg_tup z.calm (dgs_cons (dg_name (i := 3) (by decide) z.nd) (dgs_cons (dg_name (i := 4) (by decide) z.nd) dgs_nil)) (gl_cons (gl_cons gl_nil))))
      (ds_cons (ds_if (dt_not (dt_val (de_isi kit_tup U.f_isinstance U.f_tuple boot_tuple (de_v 1)))) (ds_one (ds_ret (de_callA z (c_is_number.mono (by omega)) (da_cons (de_v 1) (da_cons de_int (da_cons (de_op (OpZ.q oz_subI) (de_v 3) de_int) da_nil)))))) ds_nil)
      (ds_cons (ds_if (dt_w (dw_or (dt_cmp (OpZ.q oz_lt) (de_v 2) de_int) (dw_or (dt_not (dt_tru (de_v 1))) (dw_or1 (dt_not (dt_tru (de_callA z (c_is_number.mono (by omega)) (da_cons (de_ix (de_v 1) de_int) (da_cons de_int (da_cons (de_op (OpZ.q oz_subI) (de_len U.f_len (da_cons (de_v 4) da_nil)) de_int) da_nil)))))))))) (ds_one (ds_ret de_bl)) ds_nil)
      (ds_cons (ds_if (dt_cmp (OpZ.q (oz_ne z.room.units)) (de_len U.f_len (da_cons (de_v 1) da_nil)) (de_op (OpZ.q (oz_add false)) de_int (de_ix (de_v 4) (de_ix (de_v 1) de_int)))) (ds_one (ds_ret de_bl)) ds_nil)
      (ds_one (ds_ret (de_gen false (k := 5 + 5 * n) (z.room.mono (by omega)) rfl rfl U.f_all TB hcd hP (gxOk_by (own := [("part", 5)]) rfl) z.nd (di_it (de_sl false (de_v 1) (do_some de_int) do_none)) (fun _ _ _ _ _ _ _ hrg => (dg_name (i := 5) (by decide) (z.gx hrg).nd)) (fun _ _ _ _ _ _ _ hrg => (de_callAD (fun _ => .nil) (z.gx hrg) (ih3.mono (by omega)) (da_cons (de_v 0) (da_cons (de_v 5) (da_cons (de_op (OpZ.q oz_subI) (de_v 2) de_int) da_nil))))))))))))
      exact h.mono (by omega)
    · obtain ⟨a, fd, F, hx⟩ := U.d_is_term
      unfold FnP at F
      rw [es_is_term] at F
      have h := okAD_of F hx fs_is_term (F.binds1 3 1 (by decide) rfl fun _ _ _ _ _ _ _ us its hl hi => match us, its, hl, hi with | [_, _, _], [_], _, _ => ⟨_, rfl, rfl⟩) (P := P) (w := w) (base := base) (T := T) (TL := TL) (k := 9 + 5 * n) (m := m_is_term (r_is_term n)) fun cd A outer s H E hc hr => by
        have z := zCx_z (T := T) (TL := TL) (E := E) (H := H) (K := K) (mg := mg) (base := base) (P := P) (w := w) (outer := outer) fs_is_term.nd hr
        obtain ⟨oc, od, osl, lk, ecd⟩ := hc
        obtain ⟨cda, tp, hcd, TB, hP⟩ := U.t_is_term a fd oc od osl hx lk
        rw [ecd] at hcd
        exact (ds_cons (ds_asg (ws := [3, 4]) (de_v 0) (dg_tup z.calm (dgs_cons (dg_name (i := 3) (by decide) z.nd) (dgs_cons (dg_name (i := 4) (by decide) z.nd) dgs_nil)) (gl_cons (gl_cons gl_nil))))
      (ds_cons (ds_if (dt_not (dt_val (de_isi kit_tup U.f_isinstance U.f_tuple boot_tuple (de_v 1)))) (ds_one (ds_ret (de_callA z (c_is_number.mono (by omega)) (da_cons (de_v 1) (da_cons de_int (da_cons (de_op (OpZ.q oz_subI) (de_v 3) de_int) da_nil)))))) ds_nil)
      (ds_cons (ds_if (dt_w (dw_or (dt_cmp (OpZ.q oz_lt) (de_v 2) de_int) (dw_or (dt_not (dt_tru (de_v 1))) (dw_or1 (dt_not (dt_tru (de_callA z (c_is_number.mono (by omega)) (da_cons (de_ix (de_v 1) de_int) (da_cons de_int (da_cons (de_op (OpZ.q oz_subI) (de_len U.f_len (da_cons (de_v 4) da_nil)) de_int) da_nil)))))))))) (ds_one (ds_ret de_bl)) ds_nil)
      (ds_cons (ds_if (dt_cmp (OpZ.q (oz_ne z.room.units)) (de_len U.f_len (da_cons (de_v 1) da_nil)) (de_op (OpZ.q (oz_add false)) de_int (de_ix (de_v 4) (de_ix (de_v 1) de_int)))) (ds_one (ds_ret de_bl)) ds_nil)
      (ds_one (ds_ret (de_gen false (k := 5 + 5 * n) (z.room.mono (by omega)) rfl rfl U.f_all TB hcd hP (gxOk_by (own := [("part", 5)]) rfl) z.nd (di_it (de_sl false (de_v 1) (do_some de_int) do_none)) (fun _ _ _ _ _ _ _ hrg => (dg_name (i := 5) (by decide) (z.gx hrg).nd)) (fun _ _ _ _ _ _ _ hrg => (de_callAD (fun _ => .nil) (z.gx hrg) (ih3.mono (by omega)) (da_cons (de_v 0) (da_cons (de_v 5) (da_cons (de_op (OpZ.q oz_subI) (de_v 2) de_int) da_nil))))))))))))
      exact h.mono (by omega)
theorem ok2_is_term (U : Us P w K mg base T) : OkAD P w K mg base ⟨⟨mg, K⟩, T, TL⟩ 55 "is_term" [.int 8] (a_is_term) := (ro_is_term U 10).1
theorem ok3_is_term (U : Us P w K mg base T) : OkAD P w K mg base ⟨⟨mg, K⟩, T, TL⟩ 55 "is_term" [] (a_is_term) := (ro_is_term U 10).2
abbrev N_is_wish : List Str := ["machine", "value"]
abbrev S_is_wish : Scope := { kind := PySem.ScopeKind.function, names := [ (PySem.Str.ofString "machine", PySem.NameKind.local), (PySem.Str.ofString "value", PySem.NameKind.local), (PySem.Str.ofString "isinstance", PySem.NameKind.globalImplicit), (PySem.Str.ofString "tuple", PySem.NameKind.globalImplicit), (PySem.Str.ofString "len", PySem.NameKind.globalImplicit), (PySem.Str.ofString "is_number", PySem.NameKind.globalImplicit), (PySem.Str.ofString "is_term", PySem.NameKind.globalImplicit)], isGenerator := false, isCoroutine := false, more := [] : PySem.Scope }
theorem es_is_wish : defScope (top 23) = S_is_wish := by kernel_rfl
theorem fs_is_wish : FnScope N_is_wish ["machine", "value"] S_is_wish := ⟨rfl, rfl, rfl, by decide +kernel, rfl, by decide +kernel, by decide +kernel⟩
theorem ok_is_wish (U : Us P w K mg base T) : OkA P w K mg base ⟨⟨mg, K⟩, T, TL⟩ 56 "is_wish" (a_is_wish) := by
  have c_is_number := ok_is_number (TL := TL) U
  have c2_is_term := ok2_is_term (TL := TL) U
  obtain ⟨a, fd, F, hx⟩ := U.d_is_wish
  unfold FnP at F
  rw [es_is_wish] at F
  refine okA_of F hx fs_is_wish (fun _ _ _ _ _ _ us hl => match us, hl with | [_, _], _ => rfl) fun cd A outer s H E hc hr => ?_
  have z := zCx_z (T := T) (TL := TL) (E := E) (H := H) (K := K) (mg := mg) (base := base) (P := P) (w := w) (outer := outer) fs_is_wish.nd hr
  exact (ds_cons (ds_if (dt_w (dw_or (dt_not (dt_val (de_isi kit_tup U.f_isinstance U.f_tuple boot_tuple (de_v 1)))) (dw_or (dt_cmp (OpZ.q (oz_ne z.room.units)) (de_len U.f_len (da_cons (de_v 1) da_nil)) de_int) (dw_or1 (dt_not (dt_tru (de_callA z (c_is_number.mono (by decide)) (da_cons (de_ix (de_v 1) de_int) (da_cons de_int (da_cons (de_op (OpZ.q oz_subI) (de_ix (de_v 0) de_int) de_int) da_nil)))))))))) (ds_one (ds_ret de_bl)) ds_nil)
      (ds_one (ds_ret (de_callAD (fun _ => .cons (.int _) (.nil)) z (c2_is_term.mono (by decide)) (da_cons (de_v 0) (da_cons (de_ix (de_v 1) de_int) da_nil))))))
abbrev N_need_wishes : List Str := ["machine", "value", "index", "wish"]
abbrev S_need_wishes : Scope := { kind := PySem.ScopeKind.function, names := [ (PySem.Str.ofString "machine", PySem.NameKind.local), (PySem.Str.ofString "value", PySem.NameKind.local), (PySem.Str.ofString "index", PySem.NameKind.local), (PySem.Str.ofString "wish", PySem.NameKind.local), (PySem.Str.ofString "isinstance", PySem.NameKind.globalImplicit), (PySem.Str.ofString "tuple", PySem.NameKind.globalImplicit), (PySem.Str.ofString "BadWishes", PySem.NameKind.globalImplicit), (PySem.Str.ofString "enumerate", PySem.NameKind.globalImplicit), (PySem.Str.ofString "is_wish", PySem.NameKind.globalImplicit)], isGenerator := false, isCoroutine := false, more := [] : PySem.Scope }
theorem es_need_wishes : defScope (top 24) = S_need_wishes := by kernel_rfl
theorem fs_need_wishes : FnScope N_need_wishes ["machine", "value"] S_need_wishes := ⟨rfl, rfl, rfl, by decide +kernel, rfl, by decide +kernel, by decide +kernel⟩
theorem ok_need_wishes (U : Us P w K mg base T) : OkA P w K mg base ⟨⟨mg, K⟩, T, TL⟩ 57 "need_wishes" (a_need_wishes) := by
  have c_is_wish := ok_is_wish (TL := TL) U
  obtain ⟨a, fd, F, hx⟩ := U.d_need_wishes
  unfold FnP at F
  rw [es_need_wishes] at F
  refine okA_of F hx fs_need_wishes (fun _ _ _ _ _ _ us hl => match us, hl with | [_, _], _ => rfl) fun cd A outer s H E hc hr => ?_
  have z := zCx_z (T := T) (TL := TL) (E := E) (H := H) (K := K) (mg := mg) (base := base) (P := P) (w := w) (outer := outer) fs_need_wishes.nd hr
  have po := zCx_po (P := P) (w := w) (K := K) (mg := mg) (base := base) (N := N_need_wishes) (qual := "need_wishes") (scope := S_need_wishes) (f := a) (cd := cd) (A := A) (outer := outer) (s := s) (H := H) (E := E)
  exact (ds_cons (ds_if (dt_w (dw_or (dt_not (dt_val (de_isi kit_tup U.f_isinstance U.f_tuple boot_tuple (de_v 1)))) (dw_or1 (dt_not (dt_tru (de_v 1)))))) (ds_one ds_never) ds_nil)
      (ds_one (ds_for (ws := [2, 3]) po z.calm (di_enum rfl U.f_enumerate (de_v 1)) (dg_tup z.calm (dgs_cons (dg_name (i := 2) (by decide) z.nd) (dgs_cons (dg_name (i := 3) (by decide) z.nd) dgs_nil)) (gl_cons (gl_cons gl_nil))) (ds_one (ds_if (dt_w (dw_or (dt_not (dt_tru (de_callA z (c_is_wish.mono (by decide)) (da_cons (de_v 0) (da_cons (de_v 3) da_nil))))) (dw_or1 (dt_w (dw_and (dt_cmp (OpZ.q oz_gt) (de_v 2) de_int) (dw_and1 (dt_cmp (OpZ.q oz_ge) (de_ix (de_ix (de_v 1) (de_op (OpZ.q oz_subI) (de_v 2) de_int)) de_int) (de_ix (de_v 3) de_int)))))))) (ds_one ds_never) ds_nil)))))
abbrev N_first_terms : List Str := ["machine"]
abbrev S_first_terms : Scope := { kind := PySem.ScopeKind.function, names := [ (PySem.Str.ofString "machine", PySem.NameKind.local), (PySem.Str.ofString "tuple", PySem.NameKind.globalImplicit), (PySem.Str.ofString "range", PySem.NameKind.globalImplicit)], isGenerator := false, isCoroutine := false, more := [] : PySem.Scope }
theorem es_first_terms : defScope (top 19) = S_first_terms := by kernel_rfl
theorem fs_first_terms : FnScope N_first_terms ["machine"] S_first_terms := ⟨rfl, rfl, rfl, by decide +kernel, rfl, by decide +kernel, by decide +kernel⟩
theorem ok_first_terms (U : Us P w K mg base T) : OkA P w K mg base ⟨⟨mg, K⟩, T, TL⟩ 1 "first_terms" (a_first_terms) := by
  obtain ⟨a, fd, F, hx⟩ := U.d_first_terms
  unfold FnP at F
  rw [es_first_terms] at F
  refine okA_of F hx fs_first_terms (fun _ _ _ _ _ _ us hl => match us, hl with | [_], _ => rfl) fun cd A outer s H E hc hr => ?_
  have z := zCx_z (T := T) (TL := TL) (E := E) (H := H) (K := K) (mg := mg) (base := base) (P := P) (w := w) (outer := outer) fs_first_terms.nd hr
  exact (ds_one (ds_ret (de_tupRg z.calm U.f_tuple U.f_range (de_ix (de_v 0) de_int))))
abbrev N_depth : List Str := ["term", "part"]
abbrev S_depth : Scope := { kind := PySem.ScopeKind.function, names := [ (PySem.Str.ofString "term", PySem.NameKind.local), (PySem.Str.ofString "isinstance", PySem.NameKind.globalImplicit), (PySem.Str.ofString "tuple", PySem.NameKind.globalImplicit), (PySem.Str.ofString "max", PySem.NameKind.globalImplicit)], isGenerator := false, isCoroutine := false, more := [(PySem.Str.ofString "fast", (PySem.Const.str "term")), (PySem.Str.ofString "fast", (PySem.Const.str "part"))] : PySem.Scope }
theorem es_depth : defScope (top 17) = S_depth := by kernel_rfl
theorem fs_depth : FnScope N_depth ["term"] S_depth := ⟨rfl, rfl, rfl, by decide +kernel, rfl, by decide +kernel, by decide +kernel⟩
theorem ro_depth (U : Us P w K mg base T) : ∀ n, OkA P w K mg base ⟨⟨mg, K⟩, T, TL⟩ (1 + 1 * n) "depth" (r_depth n)
  | 0 => by
    obtain ⟨a, fd, F, hx⟩ := U.d_depth
    unfold FnP at F
    rw [es_depth] at F
    have h := okA_of F hx fs_depth (fun _ _ _ _ _ _ us hl => match us, hl with | [_], _ => rfl) (P := P) (w := w) (base := base) (T := T) (TL := TL) (k := 0) (m := fun _ _ => .stuck) fun cd A outer s H E hc hr => dss_never
    exact okA_never h (by omega)
  | n + 1 => by
    have ih := ro_depth U n
    obtain ⟨a, fd, F, hx⟩ := U.d_depth
    unfold FnP at F
    rw [es_depth] at F
    have h := okA_of F hx fs_depth (fun _ _ _ _ _ _ us hl => match us, hl with | [_], _ => rfl) (P := P) (w := w) (base := base) (T := T) (TL := TL) (k := 1 + 1 * n) (m := m_depth (r_depth n)) fun cd A outer s H E hc hr => by
      have z := zCx_z (T := T) (TL := TL) (E := E) (H := H) (K := K) (mg := mg) (base := base) (P := P) (w := w) (outer := outer) fs_depth.nd hr
      exact (ds_one (ds_ret (de_if (dt_val (de_isi kit_tup U.f_isinstance U.f_tuple boot_tuple (de_v 0))) (de_op (OpZ.q (oz_add false)) de_int (de_max z.calm U.f_max (da_cons (de_lc false z.calm z.nd (di_it (de_sl false (de_v 0) (do_some de_int) do_none)) (blkOk_by (own := [("part", 1)]) rfl) (fun _ _ _ _ _ => (dg_name (i := 1) (by decide) (z.blk).nd)) (fun _ _ _ _ _ => dts_nil) (fun _ _ _ _ _ => (de_callA (z.blk) (ih.mono (by omega)) (da_cons (de_v 1) da_nil)))) da_nil))) de_int)))
    exact h.mono (by omega)
theorem ok_depth (U : Us P w K mg base T) : OkA P w K mg base ⟨⟨mg, K⟩, T, TL⟩ 11 "depth" (a_depth) := ro_depth U 10
abbrev N_done : List Str := ["held", "line", "cell", "function", "sources", "term", "source"]
abbrev S_done : Scope := { kind := PySem.ScopeKind.function, names := [ (PySem.Str.ofString "held", PySem.NameKind.cell), (PySem.Str.ofString "line", PySem.NameKind.local), (PySem.Str.ofString "cell", PySem.NameKind.local), (PySem.Str.ofString "function", PySem.NameKind.local), (PySem.Str.ofString "sources", PySem.NameKind.local), (PySem.Str.ofString "term", PySem.NameKind.local), (PySem.Str.ofString "tuple", PySem.NameKind.globalImplicit), (PySem.Str.ofString "depth", PySem.NameKind.globalImplicit), (PySem.Str.ofString "MOST_DEEP", PySem.NameKind.globalImplicit), (PySem.Str.ofString "TooMany", PySem.NameKind.globalImplicit)], isGenerator := false, isCoroutine := false, more := [ (PySem.Str.ofString "fast", (PySem.Const.str "held")), (PySem.Str.ofString "fast", (PySem.Const.str "line")), (PySem.Str.ofString "fast", (PySem.Const.str "cell")), (PySem.Str.ofString "fast", (PySem.Const.str "function")), (PySem.Str.ofString "fast", (PySem.Const.str "sources")), (PySem.Str.ofString "fast", (PySem.Const.str "term")), (PySem.Str.ofString "fast", (PySem.Const.str "source"))] : PySem.Scope }
theorem es_done : defScope (top 20) = S_done := by kernel_rfl
theorem fs_done : FnScope N_done ["held", "line"] S_done := ⟨rfl, rfl, rfl, by decide +kernel, rfl, by decide +kernel, by decide +kernel⟩
theorem ok_done (U : Us P w K mg base T) : OkA P w K mg base ⟨⟨mg, K⟩, T, TL⟩ 12 "done" (a_done) := by
  obtain ⟨t_MOST_DEEP, g_MOST_DEEP⟩ := U.g_MOST_DEEP
  have c_depth := ok_depth (TL := TL) U
  obtain ⟨a, fd, F, hx⟩ := U.d_done
  unfold FnP at F
  rw [es_done] at F
  refine okA_of F hx fs_done (fun _ _ _ _ _ _ us hl => match us, hl with | [_, _], _ => rfl) fun cd A outer s H E hc hr => ?_
  have z := zCx_z (T := T) (TL := TL) (E := E) (H := H) (K := K) (mg := mg) (base := base) (P := P) (w := w) (outer := outer) fs_done.nd hr
  exact (ds_cons (ds_asg (ws := [2, 3, 4]) (de_v 1) (dg_tup z.calm (dgs_cons (dg_name (i := 2) (by decide) z.nd) (dgs_cons (dg_name (i := 3) (by decide) z.nd) (dgs_cons (dg_name (i := 4) (by decide) z.nd) dgs_nil))) (gl_cons (gl_cons (gl_cons gl_nil)))))
      (ds_cons (ds_if (dt_isN (de_v 3)) (ds_one (ds_set (i := 5) z.nd (de_ix (de_v 0) (de_ix (de_v 4) de_int)))) (ds_cons (ds_set (i := 5) z.nd (de_op (OpZ.q (oz_add false)) (de_tup (da_cons (de_v 3) da_nil)) (de_tuple U.f_tuple (da_cons (de_lc false z.calm z.nd (di_it (de_v 4)) (blkOk_by (own := [("source", 6)]) rfl) (fun _ _ _ _ _ => (dg_name (i := 6) (by decide) (z.blk).nd)) (fun _ _ _ _ _ => dts_nil) (fun _ _ _ _ _ => (de_ix (de_v 0) (de_v 6)))) da_nil))))
      (ds_one (ds_if (dt_cmp (OpZ.q oz_gt) (de_callA z (c_depth.mono (by decide)) (da_cons (de_v 5) da_nil)) (de_gi g_MOST_DEEP)) (ds_one ds_never) ds_nil))))
      (ds_one (ds_ret (de_op (OpZ.q (oz_add false)) (de_op (OpZ.q (oz_add false)) (de_sl false (de_v 0) do_none (do_some (de_v 2))) (de_tup (da_cons (de_v 5) da_nil))) (de_sl false (de_v 0) (do_some (de_op (OpZ.q (oz_add false)) (de_v 2) de_int)) do_none))))))
abbrev N_fulfilled : List Str := ["held", "wishes", "cell", "term"]
abbrev S_fulfilled : Scope := { kind := PySem.ScopeKind.function, names := [ (PySem.Str.ofString "held", PySem.NameKind.cell), (PySem.Str.ofString "wishes", PySem.NameKind.local), (PySem.Str.ofString "all", PySem.NameKind.globalImplicit)], isGenerator := false, isCoroutine := false, more := [] : PySem.Scope }
theorem es_fulfilled : defScope (top 25) = S_fulfilled := by kernel_rfl
theorem fs_fulfilled : FnScope N_fulfilled ["held", "wishes"] S_fulfilled := ⟨rfl, rfl, rfl, by decide +kernel, rfl, by decide +kernel, by decide +kernel⟩
theorem ok_fulfilled (U : Us P w K mg base T) : OkA P w K mg base ⟨⟨mg, K⟩, T, TL⟩ 5 "fulfilled" (a_fulfilled) := by
  obtain ⟨a, fd, F, hx⟩ := U.d_fulfilled
  unfold FnP at F
  rw [es_fulfilled] at F
  refine okA_of F hx fs_fulfilled (fun _ _ _ _ _ _ us hl => match us, hl with | [_, _], _ => rfl) fun cd A outer s H E hc hr => ?_
  have z := zCx_z (T := T) (TL := TL) (E := E) (H := H) (K := K) (mg := mg) (base := base) (P := P) (w := w) (outer := outer) fs_fulfilled.nd hr
  obtain ⟨oc, od, osl, lk, ecd⟩ := hc
  obtain ⟨cda, tp, hcd, TB, hP⟩ := U.t_fulfilled a fd oc od osl hx lk
  rw [ecd] at hcd
  exact (ds_one (ds_ret (de_gen false (k := 0) (z.room.mono (by omega)) rfl rfl U.f_all TB hcd hP (gxOk_by (own := [("cell", 2), ("term", 3)]) rfl) z.nd (di_it (de_v 1)) (fun _ _ _ _ _ _ _ hrg => (dg_tup (z.gx hrg).calm (dgs_cons (dg_name (i := 2) (by decide) (z.gx hrg).nd) (dgs_cons (dg_name (i := 3) (by decide) (z.gx hrg).nd) dgs_nil)) (gl_cons (gl_cons gl_nil)))) (fun _ _ _ _ _ _ _ hrg => (de_cmp (OpZ.q (oz_eq (z.gx hrg).room.units)) (de_ix (de_v 0) (de_v 2)) (de_v 3))))))
abbrev N_common : List Str := ["one", "other"]
abbrev S_common : Scope := { kind := PySem.ScopeKind.function, names := [(PySem.Str.ofString "one", PySem.NameKind.local), (PySem.Str.ofString "other", PySem.NameKind.local)], isGenerator := false, isCoroutine := false, more := [] : PySem.Scope }
theorem es_common : defScope (top 28) = S_common := by kernel_rfl
theorem fs_common : FnScope N_common ["one", "other"] S_common := ⟨rfl, rfl, rfl, by decide +kernel, rfl, by decide +kernel, by decide +kernel⟩
theorem ok_common (U : Us P w K mg base T) (fu : Nat) : OkA P w K mg base ⟨⟨mg, K⟩, T, TL⟩ 1 "common" (a_common fu) := by
  obtain ⟨a, fd, F, hx⟩ := U.d_common
  unfold FnP at F
  rw [es_common] at F
  refine okA_of F hx fs_common (fun _ _ _ _ _ _ us hl => match us, hl with | [_, _], _ => rfl) fun cd A outer s H E hc hr => ?_
  have z := zCx_z (T := T) (TL := TL) (E := E) (H := H) (K := K) (mg := mg) (base := base) (P := P) (w := w) (outer := outer) fs_common.nd hr
  have po := zCx_po (P := P) (w := w) (K := K) (mg := mg) (base := base) (N := N_common) (qual := "common") (scope := S_common) (f := a) (cd := cd) (A := A) (outer := outer) (s := s) (H := H) (E := E)
  exact (ds_cons (ds_while fu po (dt_tru (de_v 1)) (ds_one (ds_par (i := 0) (j := 1) z.calm z.nd (da_cons (de_v 1) (da_cons (de_op (OpZ.q oz_modI) (de_v 0) (de_v 1)) da_nil)) (by decide))))
      (ds_one (ds_ret (de_v 0))))
abbrev N_right_chance : List Str := ["machine", "program", "chance", "wishes", "line", "good", "shared", "top", "bottom", "shares", "whole", "later", "held", "share", "after", "weight"]
abbrev S_right_chance : Scope := { kind := PySem.ScopeKind.function, names := [ (PySem.Str.ofString "machine", PySem.NameKind.local), (PySem.Str.ofString "program", PySem.NameKind.local), (PySem.Str.ofString "chance", PySem.NameKind.local), (PySem.Str.ofString "wishes", PySem.NameKind.cell), (PySem.Str.ofString "top", PySem.NameKind.local), (PySem.Str.ofString "bottom", PySem.NameKind.local), (PySem.Str.ofString "shares", PySem.NameKind.local), (PySem.Str.ofString "whole", PySem.NameKind.local), (PySem.Str.ofString "line", PySem.NameKind.local), (PySem.Str.ofString "later", PySem.NameKind.local), (PySem.Str.ofString "held", PySem.NameKind.local), (PySem.Str.ofString "share", PySem.NameKind.local), (PySem.Str.ofString "after", PySem.NameKind.local), (PySem.Str.ofString "weight", PySem.NameKind.local), (PySem.Str.ofString "good", PySem.NameKind.local), (PySem.Str.ofString "shared", PySem.NameKind.local), (PySem.Str.ofString "need_machine", PySem.NameKind.globalImplicit), (PySem.Str.ofString "need_program", PySem.NameKind.globalImplicit), (PySem.Str.ofString "need_chance", PySem.NameKind.globalImplicit), (PySem.Str.ofString "need_wishes", PySem.NameKind.globalImplicit), (PySem.Str.ofString "first_terms", PySem.NameKind.globalImplicit), (PySem.Str.ofString "done", PySem.NameKind.globalImplicit), (PySem.Str.ofString "len", PySem.NameKind.globalImplicit), (PySem.Str.ofString "MOST_PAIRS", PySem.NameKind.globalImplicit), (PySem.Str.ofString "TooMany", PySem.NameKind.globalImplicit), (PySem.Str.ofString "sum", PySem.NameKind.globalImplicit), (PySem.Str.ofString "common", PySem.NameKind.globalImplicit)], isGenerator := false, isCoroutine := false, more := [ (PySem.Str.ofString "fast", (PySem.Const.str "machine")), (PySem.Str.ofString "fast", (PySem.Const.str "program")), (PySem.Str.ofString "fast", (PySem.Const.str "chance")), (PySem.Str.ofString "fast", (PySem.Const.str "wishes")), (PySem.Str.ofString "fast", (PySem.Const.str "top")), (PySem.Str.ofString "fast", (PySem.Const.str "bottom")), (PySem.Str.ofString "fast", (PySem.Const.str "shares")), (PySem.Str.ofString "fast", (PySem.Const.str "whole")), (PySem.Str.ofString "fast", (PySem.Const.str "line")), (PySem.Str.ofString "fast", (PySem.Const.str "later")), (PySem.Str.ofString "fast", (PySem.Const.str "held")), (PySem.Str.ofString "fast", (PySem.Const.str "share")), (PySem.Str.ofString "fast", (PySem.Const.str "after")), (PySem.Str.ofString "fast", (PySem.Const.str "weight")), (PySem.Str.ofString "fast", (PySem.Const.str "good")), (PySem.Str.ofString "fast", (PySem.Const.str "shared"))] : PySem.Scope }
theorem es_right_chance : defScope (top 30) = S_right_chance := by kernel_rfl
theorem fs_right_chance : FnScope N_right_chance ["machine", "program", "chance", "wishes"] S_right_chance := ⟨rfl, rfl, rfl, by decide +kernel, rfl, by decide +kernel, by decide +kernel⟩
theorem ok_right_chance (U : Us P w K mg base T) (fu : Nat) : OkA P w K mg base ⟨⟨mg, K⟩, T, TL⟩ 58 "right_chance" (a_right_chance fu) := by
  obtain ⟨t_MOST_PAIRS, g_MOST_PAIRS⟩ := U.g_MOST_PAIRS
  have c_need_machine := ok_need_machine (TL := TL) U
  have c_need_program := ok_need_program (TL := TL) U
  have c_need_chance := ok_need_chance (TL := TL) U
  have c_need_wishes := ok_need_wishes (TL := TL) U
  have c_first_terms := ok_first_terms (TL := TL) U
  have c_done := ok_done (TL := TL) U
  have c_fulfilled := ok_fulfilled (TL := TL) U
  have c_common := ok_common (TL := TL) U fu
  obtain ⟨a, fd, F, hx⟩ := U.d_right_chance
  unfold FnP at F
  rw [es_right_chance] at F
  refine okA_of F hx fs_right_chance (fun _ _ _ _ _ _ us hl => match us, hl with | [_, _, _, _], _ => rfl) fun cd A outer s H E hc hr => ?_
  have z := zCx_z (T := T) (TL := TL) (E := E) (H := H) (K := K) (mg := mg) (base := base) (P := P) (w := w) (outer := outer) fs_right_chance.nd hr
  have po := zCx_po (P := P) (w := w) (K := K) (mg := mg) (base := base) (N := N_right_chance) (qual := "right_chance") (scope := S_right_chance) (f := a) (cd := cd) (A := A) (outer := outer) (s := s) (H := H) (E := E)
  exact (ds_cons (ds_expr (de_callA z (c_need_machine.mono (by decide)) (da_cons (de_v 0) da_nil)))
      (ds_cons (ds_expr (de_callA z (c_need_program.mono (by decide)) (da_cons (de_v 0) (da_cons (de_v 1) da_nil))))
      (ds_cons (ds_expr (de_callA z (c_need_chance.mono (by decide)) (da_cons (de_v 2) da_nil)))
      (ds_cons (ds_expr (de_callA z (c_need_wishes.mono (by decide)) (da_cons (de_v 0) (da_cons (de_v 3) da_nil))))
      (ds_cons (ds_asg (ws := [7, 8]) (de_v 2) (dg_tup z.calm (dgs_cons (dg_name (i := 7) (by decide) z.nd) (dgs_cons (dg_name (i := 8) (by decide) z.nd) dgs_nil)) (gl_cons (gl_cons gl_nil))))
      (ds_cons (ds_par (i := 9) (j := 10) z.calm z.nd (da_cons (de_dct1 z.room.units false (de_callA z (c_first_terms.mono (by decide)) (da_cons (de_v 0) da_nil)) de_int) (da_cons de_int da_nil)) (by decide))
      (ds_cons (ds_for (ws := [4]) po z.calm (di_it (de_v 1)) (dg_name (i := 4) (by decide) z.nd) (ds_cons (ds_set (i := 11) z.nd (de_dct0 true))
      (ds_cons (ds_for (ws := [12, 13]) po z.calm (di_items (de_v 9)) (dg_tup z.calm (dgs_cons (dg_name (i := 12) (by decide) z.nd) (dgs_cons (dg_name (i := 13) (by decide) z.nd) dgs_nil)) (gl_cons (gl_cons gl_nil))) (ds_one (ds_for (ws := [14, 15]) po z.calm (di_it (de_tup (da_cons (de_tup (da_cons (de_callA z (c_done.mono (by decide)) (da_cons (de_v 12) (da_cons (de_v 4) da_nil))) (da_cons (de_op (OpZ.q oz_subI) (de_v 8) (de_v 7)) da_nil))) (da_cons (de_tup (da_cons (de_v 12) (da_cons (de_v 7) da_nil))) da_nil)))) (dg_tup z.calm (dgs_cons (dg_name (i := 14) (by decide) z.nd) (dgs_cons (dg_name (i := 15) (by decide) z.nd) dgs_nil)) (gl_cons (gl_cons gl_nil))) (ds_one (ds_if (dt_tru (de_v 15)) (ds_one (ds_sub (set_l.or (set_d z.room.units)) (de_op (OpZ.q (oz_add false)) (de_get z.room.units (de_v 11) (da_cons (de_v 14) (da_cons de_int da_nil))) (de_op (OpZ.q oz_mul) (de_v 13) (de_v 15))) (de_v 11) (de_v 14))) ds_nil)))))
      (ds_cons (ds_if (dt_cmp (OpZ.q oz_gt) (de_len U.f_len (da_cons (de_v 11) da_nil)) (de_gi g_MOST_PAIRS)) (ds_one ds_never) ds_nil)
      (ds_one (ds_par (i := 9) (j := 10) z.calm z.nd (da_cons (de_v 11) (da_cons (de_op (OpZ.q oz_mul) (de_v 10) (de_v 8)) da_nil)) (by decide)))))))
      (ds_cons (ds_set (i := 5) z.nd (de_sum z.calm U.f_sum (da_cons (de_lc false z.calm z.nd (di_items (de_v 9)) (blkOk_by (own := [("held", 12), ("share", 13)]) rfl) (fun _ _ _ _ _ => (dg_tup (z.blk).calm (dgs_cons (dg_name (i := 12) (by decide) (z.blk).nd) (dgs_cons (dg_name (i := 13) (by decide) (z.blk).nd) dgs_nil)) (gl_cons (gl_cons gl_nil)))) (fun _ _ _ _ _ => (dts_one (dt_tru (de_callA (z.blk) (c_fulfilled.mono (by decide)) (da_cons (de_v 12) (da_cons (de_v 3) da_nil)))))) (fun _ _ _ _ _ => (de_v 13))) da_nil)))
      (ds_cons (ds_set (i := 6) z.nd (de_callA z (c_common.mono (by decide)) (da_cons (de_v 5) (da_cons (de_v 10) da_nil))))
      (ds_one (ds_ret (de_tup (da_cons (de_op (OpZ.q oz_divI) (de_v 5) (de_v 6)) (da_cons (de_op (OpZ.q oz_divI) (de_v 10) (de_v 6)) da_nil))))))))))))))
abbrev N_law : List Str := ["_law_script", "_law_row", "_law_machine_here", "_law_bottom", "_law_losses", "_law_whole", "_law_line", "_law_program_here", "_law_wishes_here", "_law_held", "_law_top", "_law_good", "_law_one", "_law_other", "_law_share", "_law_at", "_law_cell", "_law_term"]
abbrev S_law : Scope := { kind := PySem.ScopeKind.function, names := [ (PySem.Str.ofString "_law_script", PySem.NameKind.local), (PySem.Str.ofString "_law_row", PySem.NameKind.cell), (PySem.Str.ofString "_law_machine_here", PySem.NameKind.local), (PySem.Str.ofString "_law_program_here", PySem.NameKind.local), (PySem.Str.ofString "_law_wishes_here", PySem.NameKind.local), (PySem.Str.ofString "_law_held", PySem.NameKind.cell), (PySem.Str.ofString "_law_bottom", PySem.NameKind.local), (PySem.Str.ofString "_law_top", PySem.NameKind.local), (PySem.Str.ofString "_law_good", PySem.NameKind.local), (PySem.Str.ofString "_law_losses", PySem.NameKind.local), (PySem.Str.ofString "_law_share", PySem.NameKind.local), (PySem.Str.ofString "_law_at", PySem.NameKind.local), (PySem.Str.ofString "_law_whole", PySem.NameKind.local), (PySem.Str.ofString "_law_line", PySem.NameKind.local), (PySem.Str.ofString "_law_one", PySem.NameKind.local), (PySem.Str.ofString "_law_other", PySem.NameKind.local), (PySem.Str.ofString "_law_machine", PySem.NameKind.globalImplicit), (PySem.Str.ofString "_law_tame", PySem.NameKind.globalImplicit), (PySem.Str.ofString "_law_program", PySem.NameKind.globalImplicit), (PySem.Str.ofString "_law_wishes", PySem.NameKind.globalImplicit), (PySem.Str.ofString "_law_taken", PySem.NameKind.globalImplicit), (PySem.Str.ofString "_law_ran", PySem.NameKind.globalImplicit), (PySem.Str.ofString "tuple", PySem.NameKind.globalImplicit), (PySem.Str.ofString "range", PySem.NameKind.globalImplicit), (PySem.Str.ofString "_law_every_loss", PySem.NameKind.globalImplicit), (PySem.Str.ofString "len", PySem.NameKind.globalImplicit), (PySem.Str.ofString "int", PySem.NameKind.globalImplicit), (PySem.Str.ofString "_law_alike", PySem.NameKind.globalImplicit), (PySem.Str.ofString "right_chance", PySem.NameKind.globalImplicit)], isGenerator := false, isCoroutine := false, more := [ (PySem.Str.ofString "fast", (PySem.Const.str "_law_script")), (PySem.Str.ofString "fast", (PySem.Const.str "_law_row")), (PySem.Str.ofString "fast", (PySem.Const.str "_law_machine_here")), (PySem.Str.ofString "fast", (PySem.Const.str "_law_program_here")), (PySem.Str.ofString "fast", (PySem.Const.str "_law_wishes_here")), (PySem.Str.ofString "fast", (PySem.Const.str "_law_held")), (PySem.Str.ofString "fast", (PySem.Const.str "_law_cell")), (PySem.Str.ofString "fast", (PySem.Const.str "_law_bottom")), (PySem.Str.ofString "fast", (PySem.Const.str "_law_top")), (PySem.Str.ofString "fast", (PySem.Const.str "_law_good")), (PySem.Str.ofString "fast", (PySem.Const.str "_law_losses")), (PySem.Str.ofString "fast", (PySem.Const.str "_law_term")), (PySem.Str.ofString "fast", (PySem.Const.str "_law_share")), (PySem.Str.ofString "fast", (PySem.Const.str "_law_at")), (PySem.Str.ofString "fast", (PySem.Const.str "_law_whole")), (PySem.Str.ofString "fast", (PySem.Const.str "_law_line")), (PySem.Str.ofString "fast", (PySem.Const.str "_law_one")), (PySem.Str.ofString "fast", (PySem.Const.str "_law_other"))] : PySem.Scope }
theorem es_law : defScope (top 44) = S_law := by kernel_rfl
theorem fs_law : FnScope N_law ["_law_script"] S_law := ⟨rfl, rfl, rfl, by decide +kernel, rfl, by decide +kernel, by decide +kernel⟩
theorem fn_law (U : Us P w K mg base T) (fu : Nat) {a : Addr} {fd : FuncData} (F : FnP K "law" (top 44) [] a fd) (hx : mg "law" = some (.ref a)) : FnOk P w K mg base (L2.CX P w) 59 a fd ["_law_script"] (spA w ⟨⟨mg, K⟩, T, TL⟩ (a_law fu)) := by
  have c_l_machine := ok_l_machine (TL := TL) U
  have c_l_wishes := ok_l_wishes (TL := TL) U
  have c_l_tame := ok_l_tame (TL := TL) U
  have c_l_program := ok_l_program (TL := TL) U
  have c_l_taken := ok_l_taken (TL := TL) U
  have c_l_ran := ok_l_ran (TL := TL) U
  have c_l_every_loss := ok_l_every_loss (TL := TL) U
  have c_l_alike := ok_l_alike (TL := TL) U
  have c_right_chance := ok_right_chance (TL := TL) U fu
  unfold FnP at F
  rw [es_law] at F
  refine fnA_of F fs_law fun cd A outer s H E hc hr => ?_
  have z := zCx_z (T := T) (TL := TL) (E := E) (H := H) (K := K) (mg := mg) (base := base) (P := P) (w := w) (outer := outer) fs_law.nd hr
  have po := zCx_po (P := P) (w := w) (K := K) (mg := mg) (base := base) (N := N_law) (qual := "law") (scope := S_law) (f := a) (cd := cd) (A := A) (outer := outer) (s := s) (H := H) (E := E)
  exact (ds_cons (ds_set (i := 1) z.nd (de_lst true (da_cons (de_v 0) (da_cons de_int (da_cons de_int (da_cons de_int da_nil))))))
      (ds_cons (ds_set (i := 2) z.nd (de_callB z (c_l_machine.mono (by decide)) (da_cons (de_v 1) da_nil)))
      (ds_cons (ds_par (i := 7) (j := 8) z.calm z.nd (da_cons (de_callA z (c_l_tame.mono (by decide)) (da_cons (de_v 2) (da_cons (de_callB z (c_l_program.mono (by decide)) (da_cons (de_v 1) (da_cons (de_v 2) (da_cons de_int da_nil)))) da_nil))) (da_cons (de_callB z (c_l_wishes.mono (by decide)) (da_cons (de_v 1) (da_cons (de_v 2) da_nil))) da_nil)) (by decide))
      (ds_cons (ds_if (dt_cmp (OpZ.q oz_gt) (de_callB z (c_l_taken.mono (by decide)) (da_cons (de_v 1) (da_cons de_int da_nil))) de_int) (ds_cons (ds_set (i := 9) z.nd (de_callA z (c_l_ran.mono (by decide)) (da_cons (de_v 2) (da_cons (de_v 7) (da_cons (de_tup da_nil) da_nil)))))
      (ds_one (ds_set (i := 8) z.nd (de_tuple U.f_tuple (da_cons (de_lc false z.calm z.nd (di_range1 rfl U.f_range (da_cons (de_ix (de_v 2) de_int) da_nil)) (blkOk_by (own := [("_law_cell", 16)]) rfl) (fun _ _ _ _ _ => (dg_name (i := 16) (by decide) (z.blk).nd)) (fun _ _ _ _ _ => (dts_one (dt_w (dw_or (dt_cmp (OpZ.q (oz_eq (z.blk).room.units)) (de_callB (z.blk) (c_l_taken.mono (by decide)) (da_cons (de_v 1) (da_cons de_int da_nil))) de_int) (dw_or1 (dt_cmp (OpZ.q (oz_eq (z.blk).room.units)) (de_v 16) de_int)))))) (fun _ _ _ _ _ => (de_tup (da_cons (de_v 16) (da_cons (de_ix (de_v 9) (de_v 16)) da_nil))))) da_nil))))) ds_nil)
      (ds_cons (ds_set (i := 3) z.nd (de_op (OpZ.q (oz_add false)) de_int (de_callB z (c_l_taken.mono (by decide)) (da_cons (de_v 1) (da_cons de_int da_nil)))))
      (ds_cons (ds_par (i := 10) (j := 11) z.calm z.nd (da_cons (de_callB z (c_l_taken.mono (by decide)) (da_cons (de_v 1) (da_cons (de_op (OpZ.q (oz_add false)) (de_v 3) de_int) da_nil))) (da_cons de_int da_nil)) (by decide))
      (ds_cons (ds_for (ws := [4]) po z.calm (di_it (de_callA z (c_l_every_loss.mono (by decide)) (da_cons (de_len U.f_len (da_cons (de_v 7) da_nil)) (da_cons (de_op (OpZ.q (oz_add false)) (de_len U.f_len (da_cons (de_v 7) da_nil)) de_int) da_nil)))) (dg_name (i := 4) (by decide) z.nd) (ds_cons (ds_set (i := 9) z.nd (de_callA z (c_l_ran.mono (by decide)) (da_cons (de_v 2) (da_cons (de_v 7) (da_cons (de_v 4) da_nil)))))
      (ds_cons (ds_if (dt_isN (de_v 9)) (ds_one (ds_ret de_bl)) ds_nil)
      (ds_one (ds_if (dt_cmp (OpZ.q (oz_eq z.room.units)) (de_lc false z.calm z.nd (di_it (de_v 8)) (blkOk_by (own := [("_law_cell", 16), ("_law_term", 17)]) rfl) (fun _ _ _ _ _ => (dg_tup (z.blk).calm (dgs_cons (dg_name (i := 16) (by decide) (z.blk).nd) (dgs_cons (dg_name (i := 17) (by decide) (z.blk).nd) dgs_nil)) (gl_cons (gl_cons gl_nil)))) (fun _ _ _ _ _ => (dts_one (dt_cmp (OpZ.q (oz_ne (z.blk).room.units)) (de_ix (de_v 9) (de_v 16)) (de_v 17)))) (fun _ _ _ _ _ => de_int)) (de_lst false da_nil)) (ds_cons (ds_set (i := 14) z.nd de_int)
      (ds_cons (ds_for (ws := [15]) po z.calm (di_range1 rfl U.f_range (da_cons (de_len U.f_len (da_cons (de_v 7) da_nil)) da_nil)) (dg_name (i := 15) (by decide) z.nd) (ds_one (ds_set (i := 14) z.nd (de_op (OpZ.q oz_mul) (de_v 14) (de_if (dt_cmp (OpZ.q (oz_in z.u65)) (de_v 15) (de_v 4)) (de_v 10) (de_op (OpZ.q oz_subI) (de_v 3) (de_v 10)))))))
      (ds_one (ds_set (i := 11) z.nd (de_op (OpZ.q (oz_add false)) (de_v 11) (de_v 14)))))) ds_nil)))))
      (ds_cons (ds_set (i := 5) z.nd de_int)
      (ds_cons (ds_for (ws := [6]) po z.calm (di_it (de_v 7)) (dg_name (i := 6) (by decide) z.nd) (ds_one (ds_set (i := 5) z.nd (de_op (OpZ.q oz_mul) (de_v 5) (de_v 3)))))
      (ds_cons (ds_par (i := 12) (j := 13) z.calm z.nd (da_cons (de_v 11) (da_cons (de_v 5) da_nil)) (by decide))
      (ds_cons (ds_while fu po (dt_cmp (OpZ.q oz_gt) (de_v 13) de_int) (ds_one (ds_par (i := 12) (j := 13) z.calm z.nd (da_cons (de_v 13) (da_cons (de_op (OpZ.q oz_modI) (de_toint U.f_int (da_cons (de_v 12) da_nil)) (de_v 13)) da_nil)) (by decide))))
      (ds_one (ds_ret (de_callA z (c_l_alike.mono (by decide)) (da_cons (de_callA z (c_right_chance.mono (by decide)) (da_cons (de_v 2) (da_cons (de_v 7) (da_cons (de_tup (da_cons (de_v 10) (da_cons (de_v 3) da_nil))) (da_cons (de_v 8) da_nil))))) (da_cons (de_tup (da_cons (de_op (OpZ.q oz_divI) (de_v 11) (de_v 12)) (da_cons (de_op (OpZ.q oz_divI) (de_v 5) (de_v 12)) da_nil))) da_nil))))))))))))))))
end
end Nk05

set_option Elab.async false
set_option linter.all false
set_option maxRecDepth 100000
set_option maxHeartbeats 0
/-! Law k05: the head. Printed by gen.py. -/
namespace Nk05
open PySem PySem.Spec PyProof.Rows L2 Zl
def dd_l_taken : He.DefD := ⟨("_law_taken", none), "_law_taken", "_law_taken", defArgs (top 32), defBody (top 32), defScope (top 32), [], []⟩
def dd_l_machine : He.DefD := ⟨("_law_machine", none), "_law_machine", "_law_machine", defArgs (top 33), defBody (top 33), defScope (top 33), [], []⟩
def dd_l_did : He.DefD := ⟨("_law_did", none), "_law_did", "_law_did", defArgs (top 34), defBody (top 34), defScope (top 34), [], []⟩
def dd_l_deep : He.DefD := ⟨("_law_deep", none), "_law_deep", "_law_deep", defArgs (top 35), defBody (top 35), defScope (top 35), [], []⟩
def dd_l_tame : He.DefD := ⟨("_law_tame", none), "_law_tame", "_law_tame", defArgs (top 36), defBody (top 36), defScope (top 36), [], []⟩
def dd_l_every_line : He.DefD := ⟨("_law_every_line", none), "_law_every_line", "_law_every_line", defArgs (top 37), defBody (top 37), defScope (top 37), [], []⟩
def dd_l_pick : He.DefD := ⟨("_law_pick", none), "_law_pick", "_law_pick", defArgs (top 38), defBody (top 38), defScope (top 38), [], []⟩
def dd_l_program : He.DefD := ⟨("_law_program", none), "_law_program", "_law_program", defArgs (top 39), defBody (top 39), defScope (top 39), [], []⟩
def dd_l_ran : He.DefD := ⟨("_law_ran", none), "_law_ran", "_law_ran", defArgs (top 40), defBody (top 40), defScope (top 40), [], []⟩
def dd_l_wishes : He.DefD := ⟨("_law_wishes", none), "_law_wishes", "_law_wishes", defArgs (top 41), defBody (top 41), defScope (top 41), [], []⟩
def dd_l_every_loss : He.DefD := ⟨("_law_every_loss", none), "_law_every_loss", "_law_every_loss", defArgs (top 42), defBody (top 42), defScope (top 42), [], []⟩
def dd_l_alike : He.DefD := ⟨("_law_alike", none), "_law_alike", "_law_alike", defArgs (top 43), defBody (top 43), defScope (top 43), [], []⟩
def dd_is_number : He.DefD := ⟨("is_number", none), "is_number", "is_number", defArgs (top 13), defBody (top 13), defScope (top 13), [], []⟩
def dd_need_machine : He.DefD := ⟨("need_machine", none), "need_machine", "need_machine", defArgs (top 14), defBody (top 14), defScope (top 14), [], []⟩
def dd_is_line : He.DefD := ⟨("is_line", none), "is_line", "is_line", defArgs (top 15), defBody (top 15), defScope (top 15), [], []⟩
def dd_need_program : He.DefD := ⟨("need_program", none), "need_program", "need_program", defArgs (top 16), defBody (top 16), defScope (top 16), [], []⟩
def dd_need_chance : He.DefD := ⟨("need_chance", none), "need_chance", "need_chance", defArgs (top 29), defBody (top 29), defScope (top 29), [], []⟩
def dd_is_term : He.DefD := ⟨("is_term", none), "is_term", "is_term", defArgs (top 18), defBody (top 18), defScope (top 18), [.int 8], []⟩
def dd_is_wish : He.DefD := ⟨("is_wish", none), "is_wish", "is_wish", defArgs (top 23), defBody (top 23), defScope (top 23), [], []⟩
def dd_need_wishes : He.DefD := ⟨("need_wishes", none), "need_wishes", "need_wishes", defArgs (top 24), defBody (top 24), defScope (top 24), [], []⟩
def dd_first_terms : He.DefD := ⟨("first_terms", none), "first_terms", "first_terms", defArgs (top 19), defBody (top 19), defScope (top 19), [], []⟩
def dd_depth : He.DefD := ⟨("depth", none), "depth", "depth", defArgs (top 17), defBody (top 17), defScope (top 17), [], []⟩
def dd_done : He.DefD := ⟨("done", none), "done", "done", defArgs (top 20), defBody (top 20), defScope (top 20), [], []⟩
def dd_fulfilled : He.DefD := ⟨("fulfilled", none), "fulfilled", "fulfilled", defArgs (top 25), defBody (top 25), defScope (top 25), [], []⟩
def dd_common : He.DefD := ⟨("common", none), "common", "common", defArgs (top 28), defBody (top 28), defScope (top 28), [], []⟩
def dd_right_chance : He.DefD := ⟨("right_chance", none), "right_chance", "right_chance", defArgs (top 30), defBody (top 30), defScope (top 30), [], []⟩
def dd_law : He.DefD := ⟨("law", none), "law", "law", defArgs (top 44), defBody (top 44), defScope (top 44), [], []⟩
def fn : List He.DefD := [dd_l_taken, dd_l_machine, dd_l_did, dd_l_deep, dd_l_tame, dd_l_every_line, dd_l_pick, dd_l_program, dd_l_ran, dd_l_wishes, dd_l_every_loss, dd_l_alike, dd_is_number, dd_need_machine, dd_is_line, dd_need_program, dd_need_chance, dd_is_term, dd_is_wish, dd_need_wishes, dd_first_terms, dd_depth, dd_done, dd_fulfilled, dd_common, dd_right_chance, dd_law]
def fa : List He.Fa := ([.glo "_law_taken", .glo "_law_machine", .glo "_law_did", .glo "_law_deep", .glo "_law_tame", .glo "_law_every_line", .glo "_law_pick", .glo "_law_program", .glo "_law_ran", .glo "_law_wishes", .glo "_law_every_loss", .glo "_law_alike", .glo "is_number", .glo "need_machine", .glo "is_line"] : List He.Fa) ++ ([.glo "need_program", .glo "need_chance", .glo "is_term", .glo "is_wish", .glo "need_wishes", .glo "first_terms", .glo "depth", .glo "done", .glo "fulfilled", .glo "common", .glo "right_chance", .glo "law", .free "all", .free "bool", .free "enumerate"] : List He.Fa) ++ ([.free "int", .free "isinstance", .free "len", .free "list", .free "max", .free "range", .free "str", .free "sum", .free "tuple", .int "MOST_BOTTOM" 1000, .int "MOST_CELLS" 4, .int "MOST_DEEP" 8, .int "MOST_FUNCTIONS" 3, .int "MOST_LINES" 60, .int "MOST_PAIRS" 3000] : List He.Fa) ++ ([.int "MOST_READ" 2] : List He.Fa)
def tf : List He.Defn := [("need_machine", none), ("is_line", none), ("is_term", none), ("fulfilled", none)]
abbrev Rw : PySem.W.OpenRow := PySem.W.OpenLaw.row PySem.Challenge.rw_lostlines_k05_whole_chances
abbrev hk : PySem.W.Hook := He.hookX 4 fa fn [] tf (fun _ => true)
def ob (s : PySem.W.SharedT) : He.AlX := He.obsX 4 fa fn [] tf (fun _ => true) (HandSHeadRun.getT s)
theorem ob_eq (s : PySem.W.SharedT) : ob s = hk.obs s.abs := He.obsX_eq (HandSHeadRun.getT_eq s)
def names : List PySem.Str := (["LinesError", "BadMachine", "BadProgram", "BadWishes", "BadChance", "TooMany", "MOST_CELLS", "MOST_FUNCTIONS", "MOST_READ", "MOST_LINES", "MOST_DEEP", "MOST_PAIRS", "MOST_BOTTOM", "is_number", "need_machine"] : List PySem.Str) ++ (["is_line", "need_program", "depth", "is_term", "first_terms", "done", "is_wish", "need_wishes", "fulfilled", "common", "need_chance", "right_chance", "_law_taken", "_law_machine", "_law_did"] : List PySem.Str) ++ (["_law_deep", "_law_tame", "_law_every_line", "_law_pick", "_law_program", "_law_ran", "_law_wishes", "_law_every_loss", "_law_alike"] : List PySem.Str)
theorem run (w : World) : HandSHeadRun.RunEq Rw (PySem.W.view Rw.prog [44]) hk ob 6000 names w := by
  intro os
  kernel_rfl
theorem us {w : World} {K : PySem.W.Frag} {h base : Heap} {mg : Str → Option Value} (X : K.In h) (G : h.Ns mainGlobals mg) (c : He.SaysX fa fn [] tf (fun _ => true) w h K) (TB : ∀ p ∈ tf.map (He.cT K), LamX.TabB base mg p.1 p.2) : Us PySem.Challenge.pw_lostlines_k05_whole_chances w K mg base ((tf.map (He.cT K)).map (·.2)) where
  f_all := He.free_ok X G (c.t.d.fact 27 (f := .free "all") rfl)
  f_bool := He.free_ok X G (c.t.d.fact 28 (f := .free "bool") rfl)
  f_enumerate := He.free_ok X G (c.t.d.fact 29 (f := .free "enumerate") rfl)
  f_int := He.free_ok X G (c.t.d.fact 30 (f := .free "int") rfl)
  f_isinstance := He.free_ok X G (c.t.d.fact 31 (f := .free "isinstance") rfl)
  f_len := He.free_ok X G (c.t.d.fact 32 (f := .free "len") rfl)
  f_list := He.free_ok X G (c.t.d.fact 33 (f := .free "list") rfl)
  f_max := He.free_ok X G (c.t.d.fact 34 (f := .free "max") rfl)
  f_range := He.free_ok X G (c.t.d.fact 35 (f := .free "range") rfl)
  f_str := He.free_ok X G (c.t.d.fact 36 (f := .free "str") rfl)
  f_sum := He.free_ok X G (c.t.d.fact 37 (f := .free "sum") rfl)
  f_tuple := He.free_ok X G (c.t.d.fact 38 (f := .free "tuple") rfl)
  g_MOST_BOTTOM := He.int_ok X G (c.t.d.fact 39 (f := .int "MOST_BOTTOM" 1000) rfl)
  g_MOST_CELLS := He.int_ok X G (c.t.d.fact 40 (f := .int "MOST_CELLS" 4) rfl)
  g_MOST_DEEP := He.int_ok X G (c.t.d.fact 41 (f := .int "MOST_DEEP" 8) rfl)
  g_MOST_FUNCTIONS := He.int_ok X G (c.t.d.fact 42 (f := .int "MOST_FUNCTIONS" 3) rfl)
  g_MOST_LINES := He.int_ok X G (c.t.d.fact 43 (f := .int "MOST_LINES" 60) rfl)
  g_MOST_PAIRS := He.int_ok X G (c.t.d.fact 44 (f := .int "MOST_PAIRS" 3000) rfl)
  g_MOST_READ := He.int_ok X G (c.t.d.fact 45 (f := .int "MOST_READ" 2) rfl)
  d_l_taken := let ⟨fd, F⟩ := c.t.d.def_ 0 (d := dd_l_taken) rfl; ⟨_, fd, F, He.glo_ok X G (c.t.d.fact 0 (f := .glo "_law_taken") rfl)⟩
  d_l_machine := let ⟨fd, F⟩ := c.t.d.def_ 1 (d := dd_l_machine) rfl; ⟨_, fd, F, He.glo_ok X G (c.t.d.fact 1 (f := .glo "_law_machine") rfl)⟩
  d_l_did := let ⟨fd, F⟩ := c.t.d.def_ 2 (d := dd_l_did) rfl; ⟨_, fd, F, He.glo_ok X G (c.t.d.fact 2 (f := .glo "_law_did") rfl)⟩
  d_l_deep := let ⟨fd, F⟩ := c.t.d.def_ 3 (d := dd_l_deep) rfl; ⟨_, fd, F, He.glo_ok X G (c.t.d.fact 3 (f := .glo "_law_deep") rfl)⟩
  d_l_tame := let ⟨fd, F⟩ := c.t.d.def_ 4 (d := dd_l_tame) rfl; ⟨_, fd, F, He.glo_ok X G (c.t.d.fact 4 (f := .glo "_law_tame") rfl)⟩
  d_l_every_line := let ⟨fd, F⟩ := c.t.d.def_ 5 (d := dd_l_every_line) rfl; ⟨_, fd, F, He.glo_ok X G (c.t.d.fact 5 (f := .glo "_law_every_line") rfl)⟩
  d_l_pick := let ⟨fd, F⟩ := c.t.d.def_ 6 (d := dd_l_pick) rfl; ⟨_, fd, F, He.glo_ok X G (c.t.d.fact 6 (f := .glo "_law_pick") rfl)⟩
  d_l_program := let ⟨fd, F⟩ := c.t.d.def_ 7 (d := dd_l_program) rfl; ⟨_, fd, F, He.glo_ok X G (c.t.d.fact 7 (f := .glo "_law_program") rfl)⟩
  d_l_ran := let ⟨fd, F⟩ := c.t.d.def_ 8 (d := dd_l_ran) rfl; ⟨_, fd, F, He.glo_ok X G (c.t.d.fact 8 (f := .glo "_law_ran") rfl)⟩
  d_l_wishes := let ⟨fd, F⟩ := c.t.d.def_ 9 (d := dd_l_wishes) rfl; ⟨_, fd, F, He.glo_ok X G (c.t.d.fact 9 (f := .glo "_law_wishes") rfl)⟩
  d_l_every_loss := let ⟨fd, F⟩ := c.t.d.def_ 10 (d := dd_l_every_loss) rfl; ⟨_, fd, F, He.glo_ok X G (c.t.d.fact 10 (f := .glo "_law_every_loss") rfl)⟩
  d_l_alike := let ⟨fd, F⟩ := c.t.d.def_ 11 (d := dd_l_alike) rfl; ⟨_, fd, F, He.glo_ok X G (c.t.d.fact 11 (f := .glo "_law_alike") rfl)⟩
  d_is_number := let ⟨fd, F⟩ := c.t.d.def_ 12 (d := dd_is_number) rfl; ⟨_, fd, F, He.glo_ok X G (c.t.d.fact 12 (f := .glo "is_number") rfl)⟩
  d_need_machine := let ⟨fd, F⟩ := c.t.d.def_ 13 (d := dd_need_machine) rfl; ⟨_, fd, F, He.glo_ok X G (c.t.d.fact 13 (f := .glo "need_machine") rfl)⟩
  d_is_line := let ⟨fd, F⟩ := c.t.d.def_ 14 (d := dd_is_line) rfl; ⟨_, fd, F, He.glo_ok X G (c.t.d.fact 14 (f := .glo "is_line") rfl)⟩
  d_need_program := let ⟨fd, F⟩ := c.t.d.def_ 15 (d := dd_need_program) rfl; ⟨_, fd, F, He.glo_ok X G (c.t.d.fact 15 (f := .glo "need_program") rfl)⟩
  d_need_chance := let ⟨fd, F⟩ := c.t.d.def_ 16 (d := dd_need_chance) rfl; ⟨_, fd, F, He.glo_ok X G (c.t.d.fact 16 (f := .glo "need_chance") rfl)⟩
  d_is_term := let ⟨fd, F⟩ := c.t.d.def_ 17 (d := dd_is_term) rfl; ⟨_, fd, F, He.glo_ok X G (c.t.d.fact 17 (f := .glo "is_term") rfl)⟩
  d_is_wish := let ⟨fd, F⟩ := c.t.d.def_ 18 (d := dd_is_wish) rfl; ⟨_, fd, F, He.glo_ok X G (c.t.d.fact 18 (f := .glo "is_wish") rfl)⟩
  d_need_wishes := let ⟨fd, F⟩ := c.t.d.def_ 19 (d := dd_need_wishes) rfl; ⟨_, fd, F, He.glo_ok X G (c.t.d.fact 19 (f := .glo "need_wishes") rfl)⟩
  d_first_terms := let ⟨fd, F⟩ := c.t.d.def_ 20 (d := dd_first_terms) rfl; ⟨_, fd, F, He.glo_ok X G (c.t.d.fact 20 (f := .glo "first_terms") rfl)⟩
  d_depth := let ⟨fd, F⟩ := c.t.d.def_ 21 (d := dd_depth) rfl; ⟨_, fd, F, He.glo_ok X G (c.t.d.fact 21 (f := .glo "depth") rfl)⟩
  d_done := let ⟨fd, F⟩ := c.t.d.def_ 22 (d := dd_done) rfl; ⟨_, fd, F, He.glo_ok X G (c.t.d.fact 22 (f := .glo "done") rfl)⟩
  d_fulfilled := let ⟨fd, F⟩ := c.t.d.def_ 23 (d := dd_fulfilled) rfl; ⟨_, fd, F, He.glo_ok X G (c.t.d.fact 23 (f := .glo "fulfilled") rfl)⟩
  d_common := let ⟨fd, F⟩ := c.t.d.def_ 24 (d := dd_common) rfl; ⟨_, fd, F, He.glo_ok X G (c.t.d.fact 24 (f := .glo "common") rfl)⟩
  d_right_chance := let ⟨fd, F⟩ := c.t.d.def_ 25 (d := dd_right_chance) rfl; ⟨_, fd, F, He.glo_ok X G (c.t.d.fact 25 (f := .glo "right_chance") rfl)⟩
  d_law := let ⟨fd, F⟩ := c.t.d.def_ 26 (d := dd_law) rfl; ⟨_, fd, F, He.glo_ok X G (c.t.d.fact 26 (f := .glo "law") rfl)⟩
  t_need_machine := fun a fd oc od osl ha lk => by
    obtain ⟨fd2, F⟩ := c.t.d.def_ 13 (d := dd_need_machine) rfl
    have e := ha.symm.trans (He.glo_ok X G (c.t.d.fact 13 (f := .glo "need_machine") rfl))
    cases e
    have m : He.cT K ("need_machine", none) ∈ tf.map (He.cT K) := List.mem_map_of_mem (by decide)
    have t := TB _ m
    exact ⟨_, _, tab_of (p := ("need_machine", none)) F lk, ⟨t.code, t.bm, t.gP⟩, List.mem_map_of_mem m⟩
  t_is_line := fun a fd oc od osl ha lk => by
    obtain ⟨fd2, F⟩ := c.t.d.def_ 14 (d := dd_is_line) rfl
    have e := ha.symm.trans (He.glo_ok X G (c.t.d.fact 14 (f := .glo "is_line") rfl))
    cases e
    have m : He.cT K ("is_line", none) ∈ tf.map (He.cT K) := List.mem_map_of_mem (by decide)
    have t := TB _ m
    exact ⟨_, _, tab_of (p := ("is_line", none)) F lk, ⟨t.code, t.bm, t.gP⟩, List.mem_map_of_mem m⟩
  t_is_term := fun a fd oc od osl ha lk => by
    obtain ⟨fd2, F⟩ := c.t.d.def_ 17 (d := dd_is_term) rfl
    have e := ha.symm.trans (He.glo_ok X G (c.t.d.fact 17 (f := .glo "is_term") rfl))
    cases e
    have m : He.cT K ("is_term", none) ∈ tf.map (He.cT K) := List.mem_map_of_mem (by decide)
    have t := TB _ m
    exact ⟨_, _, tab_of (p := ("is_term", none)) F lk, ⟨t.code, t.bm, t.gP⟩, List.mem_map_of_mem m⟩
  t_fulfilled := fun a fd oc od osl ha lk => by
    obtain ⟨fd2, F⟩ := c.t.d.def_ 23 (d := dd_fulfilled) rfl
    have e := ha.symm.trans (He.glo_ok X G (c.t.d.fact 23 (f := .glo "fulfilled") rfl))
    cases e
    have m : He.cT K ("fulfilled", none) ∈ tf.map (He.cT K) := List.mem_map_of_mem (by decide)
    have t := TB _ m
    exact ⟨_, _, tab_of (p := ("fulfilled", none)) F lk, ⟨t.code, t.bm, t.gP⟩, List.mem_map_of_mem m⟩
/-- the law holds where its mirror answers True -/
theorem holds_of (fu : Nat) (hlaw : ∀ ns : List Int, ns.length ≤ 63 → (∀ z ∈ ns, Builtin.Int.intBits z ≤ 1048576) → a_law fu [.scr (ns.map D.int)] = .ok (.bl true)) : PySem.Challenge.rw_lostlines_k05_whole_chances.Holds := by
  w_on; o_law
  refine HandSHeadRun.head_any (r := PySem.W.OpenLaw.row PySem.Challenge.rw_lostlines_k05_whole_chances) (q := PySem.W.view (PySem.W.OpenLaw.row PySem.Challenge.rw_lostlines_k05_whole_chances).prog [44]) (H := hk) (ob := ob) (M := 6000) (loose := names) (d := HandSHeadRun.topDef (PySem.W.OpenLaw.row PySem.Challenge.rw_lostlines_k05_whole_chances).prog 44) (kwd := []) ob_eq
    (by kernel_rfl) (fun s => by kernel_rfl) run (by kernel_rfl) (by kernel_rfl) (by kernel_rfl) (by rfl) (by first | assumption | decide +kernel) (by decide +kernel) ⟨rfl, rfl, rfl, rfl, rfl, by decide +kernel⟩ ?hw ?hc
  case hw => w_witness2
  case hc =>
    refine LamX.walk_ofTsE (l := PySem.Challenge.rw_lostlines_k05_whole_chances) (n := 63) (k := 59) (x := "_law_script") (CX := fun w => L2.CX (PySem.Challenge.rw_lostlines_k05_whole_chances).prog w) rfl (by decide) (by kernel_rfl) ⟨rfl, by decide, by decide⟩ ?F (fun _ _ _ _ _ ⟨_, _, _, _, _, _, _, _, _, _, _, _, z⟩ => z)
    intro w mg fa' h Y G hmg0
    obtain ⟨K, KX, c⟩ := Y
    have hmg : mg ("law" : PySem.Str) = some (.ref fa') := by
      have e : (HandSHeadRun.topDef (PySem.W.OpenLaw.row PySem.Challenge.rw_lostlines_k05_whole_chances).prog 44).name = ("law" : PySem.Str) := by kernel_rfl
      rw [← e]
      exact hmg0
    obtain ⟨fd, F⟩ := c.t.d.def_ 26 (d := dd_law) rfl
    have e := hmg.symm.trans (He.glo_ok KX G (c.t.d.fact 26 (f := .glo "law") rfl))
    cases e
    have b := FunD.bindsA (ps := ["_law_script"]) F fun _ _ _ _ _ _ us hl => match us, hl with | [_], _ => rfl
    have nT : ∀ p ∈ tf.map (He.cT K), K.lookup p.2 = none := fun p hp => by
      obtain ⟨q, hq, rfl⟩ := List.mem_map.mp hp
      exact c.out q hq
    refine ⟨K, KX, fd, tf.map (He.cT K), spA w ⟨⟨mg, K⟩, (tf.map (He.cT K)).map (·.2), []⟩ (a_law fu), fun p hp => ?_, nT, fun p hp => ?_, fun s u => b s [u] rfl, fun H a ns hl hbits hT hS => law_start nT hT hS (hlaw ns hl hbits), fun base X2 G2 TB => ?_⟩
    · obtain ⟨q, hq, rfl⟩ := List.mem_map.mp hp
      exact c.empty q hq
    · obtain ⟨q, hq, rfl⟩ := List.mem_map.mp hp
      exact PySem.W.codeHd_of_K KX (c.hd q hq)
    · exact fn_law (us KX G c TB) fu F hmg
end Nk05

set_option Elab.async false
set_option linter.all false
set_option maxRecDepth 100000
set_option maxHeartbeats 2000000
namespace Nk05
open PySem PySem.Spec PyProof.Rows L2 Zl
abbrev row (ns : List Int) (i s b : Int) : Sto := [(true, .lst [.scr (ns.map D.int), .int i, .int s, .int b])]
theorem sizeLine_val : 1000000 ≤ sizeLine := by rw [sizeLine_eq]; omega
theorem atI_nat {α : Type} {xs : List α} {i : Nat} : atI xs (i : Int) = xs[i]? := by
  unfold atI ixN
  by_cases h : i < xs.length
  · rw [if_pos (by omega), if_pos (by omega)]
    rfl
  · rw [if_pos (by omega), if_neg (by omega), List.getElem?_eq_none (by omega)]
    rfl
theorem atI_0 {α : Type} {x : α} {xs : List α} : atI (x :: xs) (0 : Int) = some x := atI_nat (i := 0)
theorem atI_1 {α : Type} {x y : α} {xs : List α} : atI (x :: y :: xs) (1 : Int) = some y := atI_nat (i := 1)
theorem atI_2 {α : Type} {x y z : α} {xs : List α} : atI (x :: y :: z :: xs) (2 : Int) = some z := atI_nat (i := 2)
theorem atI_3 {α : Type} {x y z u : α} {xs : List α} : atI (x :: y :: z :: u :: xs) (3 : Int) = some u := atI_nat (i := 3)
theorem row_get {ns : List Int} {i s b : Int} {k : Int} : oIx (.loc 0) (.int k) (row ns i s b) = (match atI [D.scr (ns.map D.int), .int i, .int s, .int b] k with | some d => .ok d (row ns i s b) | none => .stuck) := rfl
theorem row_set0 {ns : List Int} {i s b : Int} {v : Int} : or3 oSetL oSetD (.loc 0) (.int 1) (.int v) (row ns i s b) = some (row ns v s b) := rfl
theorem row_set2 {ns : List Int} {i s b : Int} {v : Int} : or3 oSetL oSetD (.loc 0) (.int 2) (.int v) (row ns i s b) = some (row ns i v b) := rfl
theorem row_set3 {ns : List Int} {i s b : Int} {v : Int} : or3 oSetL oSetD (.loc 0) (.int 3) (.int v) (row ns i s b) = some (row ns i s v) := rfl
theorem pow18 {st : Sto} : oPowI (.int 10) (.int 18) st = .ok (.int 1000000000000000000) st := by
  unfold oPowI oII cPow
  rfl
theorem scr_get {ns : List Int} {i : Int} {st : Sto} (h0 : 0 ≤ i) (h : i < ns.length) : ∃ c, oIx (.scr (ns.map D.int)) (.int i) st = .ok (.int c) st := by
  obtain ⟨n, rfl⟩ := Int.eq_ofNat_of_zero_le h0
  have hn : n < ns.length := by omega
  refine ⟨ns[n], ?_⟩
  unfold oIx
  simp only [der_scr_s]
  rw [atI_nat, List.getElem?_map, List.getElem?_eq_getElem hn]
  rfl
theorem taken_ok {ns : List Int} {i s b many : Int} (hl : ns.length ≤ 63) (h1 : 0 < many) (h2 : many < 1073741824) (hi : 0 ≤ i) :
    ∃ v i' s' b', b_l_taken [.loc 0, .int many] (row ns i s b) = .ok (.int v) (row ns i' s' b') ∧ 0 ≤ v ∧ v < many ∧ 0 ≤ i' := by
  have e : b_l_taken [.loc 0, .int many] (row ns i s b) = toB (m_l_taken [some (.loc 0), some (.int many), none, none] (row ns i s b)) := rfl
  rw [e]
  have hz := sizeLine_val
  have hlen : ∀ st : Sto, oLen [.scr (ns.map D.int)] st = .ok (.int ns.length) st := fun st => by
    unfold oLen lenD
    simp only [der_scr_s, List.length_map]
    rw [if_pos (by omega)]
  unfold m_l_taken
  have c1 : ∀ x : Int, cMul x 48271 = true := fun x => by simp [cMul]
  by_cases hb : 0 < b
  · simp [zVar_s, row_get, atI_0, atI_1, atI_2, atI_3, row_set0, row_set2, row_set3, oMod_s, oDiv_s, h1, h2, hb, toB]
    exact ⟨_, _, ⟨rfl, rfl⟩, Int.emod_nonneg _ (by omega), Int.emod_lt_of_pos _ h1, by omega⟩
  · by_cases hc : (ns.length : Int) < i + 1
    · simp [zVar_s, row_get, atI_0, atI_1, atI_2, atI_3, row_set0, row_set2, row_set3, oMod_s, oDiv_s, oMul_s, c1, h1, h2, hb, hc, hlen, toB]
      exact ⟨_, _, ⟨rfl, rfl⟩, Int.emod_nonneg _ (by omega), Int.emod_lt_of_pos _ h1, by omega⟩
    · obtain ⟨c, hg⟩ := scr_get (ns := ns) (i := i) (st := row ns (i + 1) s b) hi (by omega)
      by_cases hd : (1000000000000000000 : Int) ≤ c
      · simp [zVar_s, row_get, atI_0, atI_1, atI_2, atI_3, row_set0, row_set2, row_set3, oMod_s, oDiv_s, oMul_s, c1, h1, h2, hb, hc, hd, hg, hlen, pow18, toB]
        exact ⟨_, _, ⟨rfl, rfl⟩, Int.emod_nonneg _ (by omega), Int.emod_lt_of_pos _ h1, by omega⟩
      · simp [zVar_s, row_get, atI_0, atI_1, atI_2, atI_3, row_set0, row_set2, row_set3, oMod_s, oDiv_s, oMul_s, c1, h1, h2, hb, hc, hd, hg, hlen, pow18, toB]
        exact ⟨_, _, ⟨rfl, rfl⟩, Int.emod_nonneg _ (by omega), Int.emod_lt_of_pos _ h1, by omega⟩
/-! ### machines, terms, lines -/
/-- a machine: cells, the functions' reads -/
structure Mc where
  cells : Nat
  fns : List Nat
abbrev fnsD (fs : List Nat) : D := .tup (fs.map fun r : Nat => D.int (r : Int))
abbrev mD (m : Mc) : D := .tup [.int m.cells, fnsD m.fns]
def machines : List Mc := [1, 2, 3].flatMap fun c => [[1], [2], [1, 1], [1, 2], [2, 1], [2, 2]].map fun f => ⟨c, f⟩
inductive Tm where
  | c (i : Nat)
  | f1 (k : Nat) (a : Tm)
  | f2 (k : Nat) (a b : Tm)
  deriving DecidableEq
def tD : Tm → D
  | .c i => .int i
  | .f1 k a => .tup [.int k, tD a]
  | .f2 k a b => .tup [.int k, tD a, tD b]
def dep : Tm → Nat
  | .c _ => 1
  | .f1 _ a => 1 + dep a
  | .f2 _ a b => 1 + max (dep a) (dep b)
inductive Ln where
  | cp (c a : Nat)
  | f1 (c k a : Nat)
  | f2 (c k a b : Nat)
  deriving DecidableEq
def lD : Ln → D
  | .cp c a => .tup [.int c, .non, .tup [.int a]]
  | .f1 c k a => .tup [.int c, .int k, .tup [.int a]]
  | .f2 c k a b => .tup [.int c, .int k, .tup [.int a, .int b]]
def Ln.ok (m : Mc) : Ln → Bool
  | .cp c a => decide (c < m.cells) && decide (a < m.cells) && decide (a ≠ c)
  | .f1 c k a => decide (c < m.cells) && decide (a < m.cells) && decide (m.fns[k]? = some 1)
  | .f2 c k a b => decide (c < m.cells) && decide (a < m.cells) && decide (b < m.cells) && decide (m.fns[k]? = some 2)
def Tm.ok (m : Mc) : Tm → Bool
  | .c i => decide (i < m.cells)
  | .f1 k a => decide (m.fns[k]? = some 1) && Tm.ok m a
  | .f2 k a b => decide (m.fns[k]? = some 2) && (Tm.ok m a && Tm.ok m b)
def ln (h : List Tm) : Ln → Tm
  | .cp _ a => h.getD a (.c 0)
  | .f1 _ k a => .f1 k (h.getD a (.c 0))
  | .f2 _ k a b => .f2 k (h.getD a (.c 0)) (h.getD b (.c 0))
def Ln.cell : Ln → Nat
  | .cp c _ => c
  | .f1 c _ _ => c
  | .f2 c _ _ _ => c
def step (h : List Tm) (l : Ln) : List Tm := h.set l.cell (ln h l)
abbrev hD (h : List Tm) : D := .tup (h.map tD)
theorem pure_tD : ∀ t : Tm, D.pure (tD t) = true
  | .c _ => rfl
  | .f1 _ a => by simp [tD, D.pure, D.pures, pure_tD a]
  | .f2 _ a b => by simp [tD, D.pure, D.pures, pure_tD a, pure_tD b]
theorem intsD_one (i : Int) : intsD [.int i] = some [i] := rfl
theorem intsD_two (i j : Int) : intsD [.int i, .int j] = some [i, j] := rfl
theorem oMax1 {i : Int} {st : Sto} : oMax [.lst [.int i]] st = .ok (.int i) st := rfl
theorem oMax2 {i j : Int} {st : Sto} : oMax [.lst [.int i, .int j]] st = .ok (.int (max i j)) st := by
  have e : maxI [i, j] = max i j := by
    by_cases h : j ≤ i
    · exact (if_pos h).trans (by omega)
    · exact (if_neg h).trans (show j = max i j by omega)
  unfold oMax
  simp only [der_lst_s, intsD_two, e]
theorem deep_ok : ∀ (t : Tm) (n : Nat), dep t ≤ n → r_l_deep n [tD t] = .ok (.int (dep t))
  | t, 0, h => by cases t <;> simp [dep] at h
  | .c i, n + 1, _ => rfl
  | .f1 k a, n + 1, h => by
    have e : r_l_deep (n + 1) [tD (.f1 k a)] = toA (m_l_deep (r_l_deep n) [some (tD (.f1 k a)), none] []) := rfl
    have ih := deep_ok a n (by simp [dep] at h; omega)
    have hz := sizeLine_val
    rw [e]
    unfold m_l_deep
    have lc : zLc false (zIt (zSl false (zVar 0) (some (zC (.int 1))) none)) (gN 1) zYes (zCallA (r_l_deep n) (zCons (zVar 1) zNil)) [1] [some (tD (.f1 k a)), none] [] = .ok (.lst [.int (dep a)]) [] := by
      refine zLc_ok (is := [tD a]) (st1 := []) rfl ?_ (by simp; omega)
      refine (lc_pure (F := fun _ => .int (dep a)) fun d hd => ?_).trans rfl
      simp only [List.mem_singleton] at hd
      subst hd
      exact ⟨_, rfl, callA_ok (ds := [tD a]) rfl (by simp [D.pures, pure_tD]) ih⟩
    simp [zVar_s, tD, oIsi, pTup] at lc ⊢
    simp [lc, oMax1, toA, dep, D.pure]
  | .f2 k a b, n + 1, h => by
    have e : r_l_deep (n + 1) [tD (.f2 k a b)] = toA (m_l_deep (r_l_deep n) [some (tD (.f2 k a b)), none] []) := rfl
    have ih1 := deep_ok a n (by simp [dep] at h; omega)
    have ih2 := deep_ok b n (by simp [dep] at h; omega)
    have hz := sizeLine_val
    rw [e]
    unfold m_l_deep
    have lc : zLc false (zIt (zSl false (zVar 0) (some (zC (.int 1))) none)) (gN 1) zYes (zCallA (r_l_deep n) (zCons (zVar 1) zNil)) [1] [some (tD (.f2 k a b)), none] [] = .ok (.lst [.int (dep a), .int (dep b)]) [] := by
      refine zLc_ok (is := [tD a, tD b]) (st1 := []) rfl ?_ (by simp; omega)
      have c1 : zCallA (r_l_deep n) (zCons (zVar 1) zNil) [some (tD (.f2 k a b)), some (tD a)] [] = .ok (.int (dep a)) [] := callA_ok (ds := [tD a]) rfl (by simp [D.pures, pure_tD]) ih1
      have c2 : zCallA (r_l_deep n) (zCons (zVar 1) zNil) [some (tD (.f2 k a b)), some (tD b)] [] = .ok (.int (dep b)) [] := callA_ok (ds := [tD b]) rfl (by simp [D.pures, pure_tD]) ih2
      simp [zLcL, wipeD, c1, c2]
    simp [zVar_s, tD, oIsi, pTup] at lc ⊢
    simp [lc, oMax2, toA, dep, D.pure]
    omega
theorem depth_ok : ∀ (t : Tm) (n : Nat), dep t ≤ n → r_depth n [tD t] = .ok (.int (dep t))
  | t, 0, h => by cases t <;> simp [dep] at h
  | .c i, n + 1, _ => rfl
  | .f1 k a, n + 1, h => by
    have e : r_depth (n + 1) [tD (.f1 k a)] = toA (m_depth (r_depth n) [some (tD (.f1 k a)), none] []) := rfl
    have ih := depth_ok a n (by simp [dep] at h; omega)
    have hz := sizeLine_val
    rw [e]
    unfold m_depth
    have lc : zLc false (zIt (zSl false (zVar 0) (some (zC (.int 1))) none)) (gN 1) zYes (zCallA (r_depth n) (zCons (zVar 1) zNil)) [1] [some (tD (.f1 k a)), none] [] = .ok (.lst [.int (dep a)]) [] := by
      refine zLc_ok (is := [tD a]) (st1 := []) rfl ?_ (by simp; omega)
      refine (lc_pure (F := fun _ => .int (dep a)) fun d hd => ?_).trans rfl
      simp only [List.mem_singleton] at hd
      subst hd
      exact ⟨_, rfl, callA_ok (ds := [tD a]) rfl (by simp [D.pures, pure_tD]) ih⟩
    simp [zVar_s, tD, oIsi, pTup] at lc ⊢
    simp [lc, oMax1, toA, dep, D.pure]
  | .f2 k a b, n + 1, h => by
    have e : r_depth (n + 1) [tD (.f2 k a b)] = toA (m_depth (r_depth n) [some (tD (.f2 k a b)), none] []) := rfl
    have ih1 := depth_ok a n (by simp [dep] at h; omega)
    have ih2 := depth_ok b n (by simp [dep] at h; omega)
    have hz := sizeLine_val
    rw [e]
    unfold m_depth
    have lc : zLc false (zIt (zSl false (zVar 0) (some (zC (.int 1))) none)) (gN 1) zYes (zCallA (r_depth n) (zCons (zVar 1) zNil)) [1] [some (tD (.f2 k a b)), none] [] = .ok (.lst [.int (dep a), .int (dep b)]) [] := by
      refine zLc_ok (is := [tD a, tD b]) (st1 := []) rfl ?_ (by simp; omega)
      have c1 : zCallA (r_depth n) (zCons (zVar 1) zNil) [some (tD (.f2 k a b)), some (tD a)] [] = .ok (.int (dep a)) [] := callA_ok (ds := [tD a]) rfl (by simp [D.pures, pure_tD]) ih1
      have c2 : zCallA (r_depth n) (zCons (zVar 1) zNil) [some (tD (.f2 k a b)), some (tD b)] [] = .ok (.int (dep b)) [] := callA_ok (ds := [tD b]) rfl (by simp [D.pures, pure_tD]) ih2
      simp [zLcL, wipeD, c1, c2]
    simp [zVar_s, tD, oIsi, pTup] at lc ⊢
    simp [lc, oMax2, toA, dep, D.pure]
    omega
/-! ### a line done -/
theorem getH {h : List Tm} {i : Nat} {st : Sto} (hi : i < h.length) : oIx (hD h) (.int i) st = .ok (tD (h.getD i (.c 0))) st := by
  unfold oIx
  simp only [der_tup_s]
  rw [atI_nat, List.getElem?_map, List.getElem?_eq_getElem hi, List.getD_eq_getElem?_getD, List.getElem?_eq_getElem hi]
  rfl
theorem set_cut {α : Type} {h : List α} {i : Nat} {t : α} (hi : i < h.length) : h.take i ++ [t] ++ h.drop (i + 1) = h.set i t := by
  rw [List.set_eq_take_append_cons_drop, if_pos hi, List.append_assoc]
  rfl
theorem cut_lo {ds : List D} {i : Nat} (h : i ≤ ds.length) : Zl.cutD ds none (some (i : Int)) = ds.take i := by
  unfold Zl.cutD
  rw [HT.sIx_nat, HT.sIx_none, List.drop_zero, Nat.sub_zero, Nat.min_eq_left h]
theorem cut_hi {ds : List D} {i : Nat} (h : i ≤ ds.length) : Zl.cutD ds (some (i : Int)) none = ds.drop i := by
  unfold Zl.cutD
  rw [HT.sIx_nat, HT.sIx_none, Nat.min_eq_left h]
  exact List.take_of_length_le (by simp)
theorem oAdd_tup {m : Bool} {a b : List D} {st : Sto} (h : a.length + b.length ≤ sizeLine) : oAdd m (.tup a) (.tup b) st = .ok (.tup (a ++ b)) st := by
  show (match oAddI (.tup a) (.tup b) st with | .stuck => orO oAddT (orO oAddS (oAddL m)) (.tup a) (.tup b) st | r => r) = _
  show orO oAddT (orO oAddS (oAddL m)) (.tup a) (.tup b) st = _
  unfold orO oAddT
  simp only [h, if_true]
def Ln.in (n : Nat) : Ln → Prop
  | .cp c a => c < n ∧ a < n
  | .f1 c _ a => c < n ∧ a < n
  | .f2 c _ a b => c < n ∧ a < n ∧ b < n
theorem hD_set {h : List Tm} {c : Nat} {t : Tm} (hc : c < h.length) : (h.map tD).take c ++ [tD t] ++ (h.map tD).drop (c + 1) = (h.set c t).map tD := by
  rw [set_cut (by simpa using hc), List.map_set]
theorem did_ok {h : List Tm} {l : Ln} (hl : h.length ≤ 1000) (hi : l.in h.length) : a_l_did [hD h, lD l] = .ok (hD (step h l)) := by
  have e : a_l_did [hD h, lD l] = toA (m_l_did [some (hD h), some (lD l), none, none, none, none, none] []) := rfl
  have hz := sizeLine_val
  rw [e]
  unfold m_l_did
  have tail : ∀ (c : Nat) (t : Tm) (x y : Option D), c < h.length → toA ((sRet (zBin (qOp (oAdd false)) (zBin (qOp (oAdd false)) (zSl false (zVar 0) none (some (zVar 3))) (zTup (zCons (zVar 2) zNil))) (zSl false (zVar 0) (some (zBin (qOp (oAdd false)) (zVar 3) (zC (.int 1)))) none))) [some (hD h), some (lD l), some (tD t), some (.int c), x, y, none] []) = .ok (hD (h.set c t)) := fun c t x y hc => by
    have q1 : Zl.cutD (h.map tD) none (some (c : Int)) = (h.map tD).take c := cut_lo (by simp; omega)
    have q2 : Zl.cutD (h.map tD) (some ((c : Int) + 1)) none = (h.map tD).drop (c + 1) := cut_hi (i := c + 1) (by simp; omega)
    have k1 : 1 ≤ sizeLine := by omega
    have l1 : ((h.map tD).take c).length = c := by simp; omega
    have l2 : ((h.map tD).drop (c + 1)).length = h.length - (c + 1) := by simp
    simp only [sRet_s, zBin_s, zSl_s, zPart_n, zPart_s, zVar_s, zC_s, zTup_s, zCons_s, zNil_s, qOp_s, List.getElem?_cons_zero, List.getElem?_cons_succ, bind_ok, lbind_ok, bindL_ok, lbindL_ok, oSl_tup, q1, q2, List.length_cons, List.length_nil, Nat.zero_add, if_pos k1, oAdd_s]
    rw [oAdd_tup (by simp; omega)]
    simp only [quiet_ok, bind_ok, q2]
    rw [oAdd_tup (by simp; omega)]
    simp only [quiet_ok, bind_ok, bindS_ok]
    rw [hD_set hc]
    simp only [toA, frz_tup]
    have pp : D.pure (hD (h.set c t)) = true := pures_map pure_tD _
    rw [if_pos pp]
  cases l with
  | cp c a =>
    obtain ⟨h1, h2⟩ := hi
    have g := tail c (h.getD a (.c 0)) (some .non) (some (.tup [.int a])) h1
    refine Eq.trans (congrArg toA ?_) g
    have q : oIx (.tup [.int a]) (.int 0) [] = .ok (.int a) [] := by unfold oIx; simp only [der_tup_s, atI_0]
    simp only [lD, sSeq_s, sAsg_s, zVar_s, List.getElem?_cons_zero, List.getElem?_cons_succ, bindS_ok, gT_s, gCons_s, gN_s, gNil_s, List.set_cons_zero, List.set_cons_succ, sbind_nx, zIf_s, zUn_s, bind_ok, oIsN, dNon, tst_ok, if_true, zBin_s, qOp_s, zC_s, q, quiet_ok, getH h2, Bool.false_eq_true, if_false]
  | f1 c k a =>
    obtain ⟨h1, h2⟩ := hi
    have g := tail c (.f1 k (h.getD a (.c 0))) (some (.int k)) (some (.tup [.int a])) h1
    refine Eq.trans (congrArg toA ?_) g
    have k1 : 1 ≤ sizeLine := by omega
    have lc : zLc false (zIt (zVar 5)) (gN 6) zYes (zBin (qOp oIx) (zVar 0) (zVar 6)) [6] [some (hD h), some (lD (.f1 c k a)), none, some (.int c), some (.int k), some (.tup [.int a]), none] [] = .ok (.lst [tD (h.getD a (.c 0))]) [] := by
      refine zLc_ok (is := [.int a]) (st1 := []) rfl ?_ (by simp; omega)
      simp only [zLcL, wipeD, gN_s, List.set_cons_zero, List.set_cons_succ, zYes_s, tstL_ok, if_true, zBin_s, zVar_s, List.getElem?_cons_zero, List.getElem?_cons_succ, bind_ok, qOp_s, getH h2, quiet_ok]
    have q : oAdd false (.tup [.int k]) (.tup [tD (h.getD a (.c 0))]) ([] : Sto) = .ok (tD (.f1 k (h.getD a (.c 0)))) [] := oAdd_tup (by simp; omega)
    simp only [lD] at lc ⊢
    simp only [sSeq_s, sAsg_s, zVar_s, List.getElem?_cons_zero, List.getElem?_cons_succ, bindS_ok, gT_s, gCons_s, gN_s, gNil_s, List.set_cons_zero, List.set_cons_succ, sbind_nx, zIf_s, zUn_s, bind_ok, oIsN, dNon, tst_ok, Bool.false_eq_true, if_false, zBin_s, qOp_s, zC_s, zTup_s, zCons_s, zNil_s, bindL_ok, lbindL_ok, lbind_ok, List.length_cons, List.length_nil, Nat.zero_add, if_pos k1, zApp_s, lc, qOpN_s, oTuple_lst, q, quiet_ok]
  | f2 c k a b =>
    obtain ⟨h1, h2, h3⟩ := hi
    have g := tail c (.f2 k (h.getD a (.c 0)) (h.getD b (.c 0))) (some (.int k)) (some (.tup [.int a, .int b])) h1
    refine Eq.trans (congrArg toA ?_) g
    have k1 : 1 ≤ sizeLine := by omega
    have lc : zLc false (zIt (zVar 5)) (gN 6) zYes (zBin (qOp oIx) (zVar 0) (zVar 6)) [6] [some (hD h), some (lD (.f2 c k a b)), none, some (.int c), some (.int k), some (.tup [.int a, .int b]), none] [] = .ok (.lst [tD (h.getD a (.c 0)), tD (h.getD b (.c 0))]) [] := by
      refine zLc_ok (is := [.int a, .int b]) (st1 := []) rfl ?_ (by simp; omega)
      simp only [zLcL, wipeD, gN_s, List.set_cons_zero, List.set_cons_succ, zYes_s, tstL_ok, if_true, zBin_s, zVar_s, List.getElem?_cons_zero, List.getElem?_cons_succ, bind_ok, qOp_s, getH h2, getH h3, quiet_ok]
    have q : oAdd false (.tup [.int k]) (.tup [tD (h.getD a (.c 0)), tD (h.getD b (.c 0))]) ([] : Sto) = .ok (tD (.f2 k (h.getD a (.c 0)) (h.getD b (.c 0)))) [] := oAdd_tup (by simp; omega)
    simp only [lD] at lc ⊢
    simp only [sSeq_s, sAsg_s, zVar_s, List.getElem?_cons_zero, List.getElem?_cons_succ, bindS_ok, gT_s, gCons_s, gN_s, gNil_s, List.set_cons_zero, List.set_cons_succ, sbind_nx, zIf_s, zUn_s, bind_ok, oIsN, dNon, tst_ok, Bool.false_eq_true, if_false, zBin_s, qOp_s, zC_s, zTup_s, zCons_s, zNil_s, bindL_ok, lbindL_ok, lbind_ok, List.length_cons, List.length_nil, Nat.zero_add, if_pos k1, zApp_s, lc, qOpN_s, oTuple_lst, q, quiet_ok]
theorem done_ok {h : List Tm} {l : Ln} (hl : h.length ≤ 1000) (hi : l.in h.length) (h8 : dep (ln h l) ≤ 8) : a_done [hD h, lD l] = .ok (hD (step h l)) := by
  have e : a_done [hD h, lD l] = toA (m_done [some (hD h), some (lD l), none, none, none, none, none] []) := rfl
  have hz := sizeLine_val
  rw [e]
  unfold m_done
  have tail : ∀ (c : Nat) (t : Tm) (x y : Option D), c < h.length → toA ((sRet (zBin (qOp (oAdd false)) (zBin (qOp (oAdd false)) (zSl false (zVar 0) none (some (zVar 2))) (zTup (zCons (zVar 5) zNil))) (zSl false (zVar 0) (some (zBin (qOp (oAdd false)) (zVar 2) (zC (.int 1)))) none))) [some (hD h), some (lD l), some (.int c), x, y, some (tD t), none] []) = .ok (hD (h.set c t)) := fun c t x y hc => by
    have q1 : Zl.cutD (h.map tD) none (some (c : Int)) = (h.map tD).take c := cut_lo (by simp; omega)
    have q2 : Zl.cutD (h.map tD) (some ((c : Int) + 1)) none = (h.map tD).drop (c + 1) := cut_hi (i := c + 1) (by simp; omega)
    have k1 : 1 ≤ sizeLine := by omega
    have l1 : ((h.map tD).take c).length = c := by simp; omega
    have l2 : ((h.map tD).drop (c + 1)).length = h.length - (c + 1) := by simp
    simp only [sRet_s, zBin_s, zSl_s, zPart_n, zPart_s, zVar_s, zC_s, zTup_s, zCons_s, zNil_s, qOp_s, List.getElem?_cons_zero, List.getElem?_cons_succ, bind_ok, lbind_ok, bindL_ok, lbindL_ok, oSl_tup, q1, q2, List.length_cons, List.length_nil, Nat.zero_add, if_pos k1, oAdd_s]
    rw [oAdd_tup (by simp; omega)]
    simp only [quiet_ok, bind_ok, q2]
    rw [oAdd_tup (by simp; omega)]
    simp only [quiet_ok, bind_ok, bindS_ok]
    rw [hD_set hc]
    simp only [toA, frz_tup]
    have pp : D.pure (hD (h.set c t)) = true := pures_map pure_tD _
    rw [if_pos pp]
  cases l with
  | cp c a =>
    obtain ⟨h1, h2⟩ := hi
    have g := tail c (h.getD a (.c 0)) (some .non) (some (.tup [.int a])) h1
    refine Eq.trans (congrArg toA ?_) g
    have q : oIx (.tup [.int a]) (.int 0) [] = .ok (.int a) [] := by unfold oIx; simp only [der_tup_s, atI_0]
    simp only [lD, sSeq_s, sAsg_s, zVar_s, List.getElem?_cons_zero, List.getElem?_cons_succ, bindS_ok, gT_s, gCons_s, gN_s, gNil_s, List.set_cons_zero, List.set_cons_succ, sbind_nx, zIf_s, zUn_s, bind_ok, oIsN, dNon, tst_ok, if_true, zBin_s, qOp_s, zC_s, q, quiet_ok, getH h2, Bool.false_eq_true, if_false, sIf_s, tstS_ok]
  | f1 c k a =>
    obtain ⟨h1, h2⟩ := hi
    have g := tail c (.f1 k (h.getD a (.c 0))) (some (.int k)) (some (.tup [.int a])) h1
    refine Eq.trans (congrArg toA ?_) g
    have k1 : 1 ≤ sizeLine := by omega
    have lc : zLc false (zIt (zVar 4)) (gN 6) zYes (zBin (qOp oIx) (zVar 0) (zVar 6)) [6] [some (hD h), some (lD (.f1 c k a)), some (.int c), some (.int k), some (.tup [.int a]), none, none] [] = .ok (.lst [tD (h.getD a (.c 0))]) [] := by
      refine zLc_ok (is := [.int a]) (st1 := []) rfl ?_ (by simp; omega)
      simp only [zLcL, wipeD, gN_s, List.set_cons_zero, List.set_cons_succ, zYes_s, tstL_ok, if_true, zBin_s, zVar_s, List.getElem?_cons_zero, List.getElem?_cons_succ, bind_ok, qOp_s, getH h2, quiet_ok]
    have q : oAdd false (.tup [.int k]) (.tup [tD (h.getD a (.c 0))]) ([] : Sto) = .ok (tD (.f1 k (h.getD a (.c 0)))) [] := oAdd_tup (by simp; omega)
    have dc : ∀ x y z u v w, zCallA a_depth (zCons (zVar 5) zNil) [x, y, z, u, v, some (tD (.f1 k (h.getD a (.c 0)))), w] ([] : Sto) = .ok (.int (dep (.f1 k (h.getD a (.c 0))))) [] := fun x y z u v w => callA_ok (ds := [tD (.f1 k (h.getD a (.c 0)))]) rfl (by simp [D.pures, pure_tD]) (depth_ok _ 10 (Nat.le_trans h8 (by decide)))
    have nd : ¬ ((8 : Int) < (dep (.f1 k (h.getD a (.c 0))) : Int)) := by have : dep (.f1 k (h.getD a (.c 0))) ≤ 8 := h8; omega
    simp only [lD] at lc ⊢
    simp only [sSeq_s, sAsg_s, zVar_s, List.getElem?_cons_zero, List.getElem?_cons_succ, bindS_ok, gT_s, gCons_s, gN_s, gNil_s, List.set_cons_zero, List.set_cons_succ, sbind_nx, zIf_s, zUn_s, bind_ok, oIsN, dNon, tst_ok, sIf_s, tstS_ok, Bool.false_eq_true, if_false, zBin_s, qOp_s, zC_s, zTup_s, zCons_s, zNil_s, bindL_ok, lbindL_ok, lbind_ok, List.length_cons, List.length_nil, Nat.zero_add, if_pos k1, zApp_s, lc, qOpN_s, oTuple_lst, q, quiet_ok, sIf_s, tstS_ok, dc, oGtI_s, decide_eq_false nd, sNext_s]
  | f2 c k a b =>
    obtain ⟨h1, h2, h3⟩ := hi
    have g := tail c (.f2 k (h.getD a (.c 0)) (h.getD b (.c 0))) (some (.int k)) (some (.tup [.int a, .int b])) h1
    refine Eq.trans (congrArg toA ?_) g
    have k1 : 1 ≤ sizeLine := by omega
    have lc : zLc false (zIt (zVar 4)) (gN 6) zYes (zBin (qOp oIx) (zVar 0) (zVar 6)) [6] [some (hD h), some (lD (.f2 c k a b)), some (.int c), some (.int k), some (.tup [.int a, .int b]), none, none] [] = .ok (.lst [tD (h.getD a (.c 0)), tD (h.getD b (.c 0))]) [] := by
      refine zLc_ok (is := [.int a, .int b]) (st1 := []) rfl ?_ (by simp; omega)
      simp only [zLcL, wipeD, gN_s, List.set_cons_zero, List.set_cons_succ, zYes_s, tstL_ok, if_true, zBin_s, zVar_s, List.getElem?_cons_zero, List.getElem?_cons_succ, bind_ok, qOp_s, getH h2, getH h3, quiet_ok]
    have q : oAdd false (.tup [.int k]) (.tup [tD (h.getD a (.c 0)), tD (h.getD b (.c 0))]) ([] : Sto) = .ok (tD (.f2 k (h.getD a (.c 0)) (h.getD b (.c 0)))) [] := oAdd_tup (by simp; omega)
    have dc : ∀ x y z u v w, zCallA a_depth (zCons (zVar 5) zNil) [x, y, z, u, v, some (tD (.f2 k (h.getD a (.c 0)) (h.getD b (.c 0)))), w] ([] : Sto) = .ok (.int (dep (.f2 k (h.getD a (.c 0)) (h.getD b (.c 0))))) [] := fun x y z u v w => callA_ok (ds := [tD (.f2 k (h.getD a (.c 0)) (h.getD b (.c 0)))]) rfl (by simp [D.pures, pure_tD]) (depth_ok _ 10 (Nat.le_trans h8 (by decide)))
    have nd : ¬ ((8 : Int) < (dep (.f2 k (h.getD a (.c 0)) (h.getD b (.c 0))) : Int)) := by have : dep (.f2 k (h.getD a (.c 0)) (h.getD b (.c 0))) ≤ 8 := h8; omega
    simp only [lD] at lc ⊢
    simp only [sSeq_s, sAsg_s, zVar_s, List.getElem?_cons_zero, List.getElem?_cons_succ, bindS_ok, gT_s, gCons_s, gN_s, gNil_s, List.set_cons_zero, List.set_cons_succ, sbind_nx, zIf_s, zUn_s, bind_ok, oIsN, dNon, tst_ok, sIf_s, tstS_ok, Bool.false_eq_true, if_false, zBin_s, qOp_s, zC_s, zTup_s, zCons_s, zNil_s, bindL_ok, lbindL_ok, lbind_ok, List.length_cons, List.length_nil, Nat.zero_add, if_pos k1, zApp_s, lc, qOpN_s, oTuple_lst, q, quiet_ok, sIf_s, tstS_ok, dc, oGtI_s, decide_eq_false nd, sNext_s]
/-! ### the deepest -/
def mx (h : List Tm) : Int := maxI (h.map fun t => (dep t : Int))
theorem intsD_map {α : Type} (f : α → Int) : ∀ l : List α, intsD (l.map fun a => .int (f a)) = some (l.map f)
  | [] => rfl
  | a :: l => by simp [intsD, intsD_map f l]
theorem mx_ok {h : List Tm} {fi : ZL} {vars : Vars} {i : Nat} (hi : i < vars.length) (hl : h.length ≤ 1000) (hn : h ≠ []) (hd : ∀ t ∈ h, dep t ≤ 10) (hf : fi vars [] = .ok (h.map tD) []) :
    zApp (qOpN oMax) (zCons (zLc false fi (gN i) zYes (zCallA a_l_deep (zCons (zVar i) zNil)) [i]) zNil) vars [] = .ok (.int (mx h)) [] := by
  have hz := sizeLine_val
  have lc : zLc false fi (gN i) zYes (zCallA a_l_deep (zCons (zVar i) zNil)) [i] vars [] = .ok (.lst (h.map fun t => .int (dep t))) [] := by
    refine zLc_ok (is := h.map tD) (st1 := []) hf ?_ (by simp; omega)
    have key : ∀ (v0 : Vars), i < v0.length → ∀ l : List Tm, (∀ t ∈ l, dep t ≤ 10) → zLcL (gN i) zYes (zCallA a_l_deep (zCons (zVar i) zNil)) v0 (l.map tD) [] = .ok (l.map fun t => .int (dep t)) [] := fun v0 hv l hl => by
      induction l with
      | nil => rfl
      | cons t l ih =>
        have c : zCallA a_l_deep (zCons (zVar i) zNil) (v0.set i (some (tD t))) [] = .ok (.int (dep t)) [] := callA_ok (ds := [tD t]) (by simp [zVar_s, hv]) (by simp [D.pures, pure_tD]) (deep_ok t 10 (hl t List.mem_cons_self))
        have ih := ih fun t ht => hl t (List.mem_cons_of_mem _ ht)
        simp [zLcL, c, ih]
    exact key _ (by simp [wipeD]; exact hi) h hd
  cases h with
  | nil => exact absurd rfl hn
  | cons t h =>
    simp only [zApp_s, zCons_s, lc, zNil_s, bindL_ok, lbindL_ok, lbind_ok, qOpN_s]
    unfold oMax
    simp only [der_lst_s, intsD_map (fun t : Tm => (dep t : Int))]
    rfl
/-! ### the tamed program -/
def dmax : List Tm → Nat
  | [] => 1
  | t :: h => max (dep t) (dmax h)
theorem dmax_le {h : List Tm} {n : Nat} (h1 : 1 ≤ n) : dmax h ≤ n ↔ ∀ t ∈ h, dep t ≤ n := by
  induction h with
  | nil => simp [dmax, h1]
  | cons t h ih => simp [dmax, Nat.max_le, ih]
theorem dep_pos : ∀ t : Tm, 1 ≤ dep t
  | .c _ => Nat.le_refl _
  | .f1 _ a => by simp [dep]
  | .f2 _ a b => by simp [dep]
theorem mx_dmax {h : List Tm} (hn : h ≠ []) : mx h = (dmax h : Int) := by
  induction h with
  | nil => exact absurd rfl hn
  | cons t h ih =>
    cases h with
    | nil => have := dep_pos t; show (dep t : Int) = ((max (dep t) 1 : Nat) : Int); omega
    | cons u h =>
      have e := ih (by simp)
      show (if maxI ((u :: h).map fun t => (dep t : Int)) ≤ (dep t : Int) then (dep t : Int) else maxI ((u :: h).map fun t => (dep t : Int))) = ((max (dep t) (dmax (u :: h)) : Nat) : Int)
      have e : maxI ((u :: h).map fun t => (dep t : Int)) = (dmax (u :: h) : Int) := e
      rw [e]
      by_cases q : (dmax (u :: h) : Int) ≤ (dep t : Int)
      · rw [if_pos q]; omega
      · rw [if_neg q]; omega
theorem getD_dep {h : List Tm} {i : Nat} : dep (h.getD i (.c 0)) ≤ dmax h := by
  induction h generalizing i with
  | nil => simp [dmax, dep]
  | cons t h ih =>
    cases i with
    | zero => simp [dmax]; omega
    | succ i => have := ih (i := i); simp [dmax] at this ⊢; omega
theorem ln_dep (h : List Tm) (l : Ln) : dep (ln h l) ≤ dmax h + 1 := by
  cases l with
  | cp c a => have := getD_dep (h := h) (i := a); simp only [ln]; omega
  | f1 c k a => have := getD_dep (h := h) (i := a); simp only [ln, dep]; omega
  | f2 c k a b => have := getD_dep (h := h) (i := a); have := getD_dep (h := h) (i := b); simp only [ln, dep]; omega
theorem dmax_set : ∀ {h : List Tm} {i : Nat} {t : Tm}, dmax (h.set i t) ≤ max (dmax h) (dep t)
  | [], _, t => by simp [dmax]; omega
  | u :: h, 0, t => by simp [dmax]; omega
  | u :: h, i + 1, t => by have := dmax_set (h := h) (i := i) (t := t); simp [dmax] at this ⊢; omega
theorem step_dep (h : List Tm) (l : Ln) : dmax (step h l) ≤ dmax h + 1 := by
  have h1 := ln_dep h l
  have h2 := dmax_set (h := h) (i := l.cell) (t := ln h l)
  unfold step
  omega
theorem step_len (h : List Tm) (l : Ln) : (step h l).length = h.length := List.length_set ..
def tameF (s : List Tm × List Ln) (l : Ln) : List Tm × List Ln := if dmax (step s.1 l) < 6 then (step s.1 l, s.2 ++ [l]) else s
def cells0 (n : Nat) : List Tm := (List.range n).map .c
def tame (m : Mc) (p : List Ln) : List Ln := (p.foldl tameF (cells0 m.cells, [])).2
theorem oIx0 {x : D} {xs : List D} {st : Sto} : oIx (.tup (x :: xs)) (.int 0) st = .ok x st := by unfold oIx; simp only [der_tup_s, atI_0]
theorem oIx1 {x y : D} {xs : List D} {st : Sto} : oIx (.tup (x :: y :: xs)) (.int 1) st = .ok y st := by unfold oIx; simp only [der_tup_s, atI_1]
theorem rng_map : ∀ {n : Nat} {lo : Nat}, rng (lo : Int) n = (List.range n).map fun i => D.int ((lo + i : Nat) : Int)
  | 0, _ => rfl
  | n + 1, lo => by
    rw [List.range_succ_eq_map, List.map_cons, List.map_map]
    show D.int lo :: rng ((lo : Int) + 1) n = _
    have : ((lo : Int) + 1) = ((lo + 1 : Nat) : Int) := by omega
    rw [this, rng_map (n := n) (lo := lo + 1)]
    congr 1
    apply List.map_congr_left
    intro i _
    simp only [Function.comp]
    congr 2
    omega
theorem tupRg_cells {n : Nat} {st : Sto} (h : n ≤ 1000) : oTupRg (.int (n : Int)) st = .ok (hD (cells0 n)) st := by
  show (if decide (-(2 ^ 62) ≤ (n : Int)) && decide ((n : Int) ≤ 2 ^ 24) then R.ok (.tup (rng 0 (n : Int).toNat)) st else .stuck) = _
  rw [if_pos (by simp; omega)]
  have : rng 0 (n : Int).toNat = (cells0 n).map tD := by
    have e := rng_map (n := n) (lo := 0)
    rw [Int.toNat_natCast]
    refine Eq.trans e ?_
    unfold cells0
    rw [List.map_map]
    apply List.map_congr_left
    intro i _
    simp [tD]
  rw [this]
theorem oAdd_hd {a b : List Ln} {st : Sto} (h : a.length + b.length ≤ 1000) : oAdd false (.tup (a.map lD)) (.tup (b.map lD)) st = .ok (.tup ((a ++ b).map lD)) st := by
  have hz := sizeLine_val
  rw [oAdd_tup (by simp; omega), List.map_append]
theorem cells0_len {n : Nat} : (cells0 n).length = n := by simp [cells0]
theorem cells0_dep {n : Nat} : dmax (cells0 n) ≤ 1 := by
  rw [dmax_le (Nat.le_refl _)]
  intro t ht
  simp only [cells0, List.mem_map] at ht
  obtain ⟨i, _, rfl⟩ := ht
  simp [dep]
theorem pure_lD : ∀ l : Ln, D.pure (lD l) = true
  | .cp _ _ => rfl
  | .f1 _ _ _ => rfl
  | .f2 _ _ _ _ => rfl
theorem max_at {h : List Tm} {fi : ZL} {vars : Vars} {i : Nat} (hi : i < vars.length) (hl : h.length ≤ 1000) (hn : h ≠ []) (hd : dmax h ≤ 10) (hf : fi vars [] = .ok (h.map tD) []) :
    zApp (qOpN oMax) (zCons (zLc false fi (gN i) zYes (zCallA a_l_deep (zCons (zVar i) zNil)) [i]) zNil) vars [] = .ok (.int (dmax h)) [] := by
  rw [mx_ok hi hl hn ((dmax_le (by omega)).1 hd) hf, mx_dmax hn]
theorem ne_of_len {α : Type} {l : List α} {n : Nat} (h : l.length = n) (h1 : 1 ≤ n) : l ≠ [] := fun e => by subst e; simp at h; omega
theorem tame_ok {m : Mc} {p : List Ln} (h1 : 1 ≤ m.cells) (h2 : m.cells ≤ 1000) (hp : ∀ l ∈ p, l.in m.cells) (hl : p.length ≤ 1000) : a_l_tame [mD m, .tup (p.map lD)] = .ok (.tup ((tame m p).map lD)) := by
  have e : a_l_tame [mD m, .tup (p.map lD)] = toA (m_l_tame [some (mD m), some (.tup (p.map lD)), none, none, none, none, none] []) := rfl
  have hz := sizeLine_val
  have k1 : 1 ≤ sizeLine := by omega
  rw [e]
  unfold m_l_tame
  have fi := for_inv (T := lD) (g := gN 2) (F := tameF) (b := sSeq (sAsg (zCallA a_l_did (zCons (zVar 3) (zCons (zVar 2) zNil))) (gN 5))
      (sIf (zBin (qOp oLtI) (zApp (qOpN oMax) (zCons (zLc false (zIt (zVar 5)) (gN 6) zYes (zCallA a_l_deep (zCons (zVar 6) zNil)) [6]) zNil)) (zC (.int 6))) (sPar 3 4 (zCons (zVar 5) (zCons (zBin (qOp (oAdd false)) (zVar 4) (zTup (zCons (zVar 2) zNil))) zNil))) sNext))
      (I := fun r s v st => st = [] ∧ s.1.length = m.cells ∧ dmax s.1 ≤ 6 ∧ s.2.length + r.length ≤ 1000 ∧ (∀ l ∈ r, l.in m.cells) ∧ ∃ x y z, v = [some (mD m), some (.tup (p.map lD)), x, some (hD s.1), some (.tup (s.2.map lD)), y, z])
      (fun s a r vars st hh => ?_) p (cells0 m.cells, []) [some (mD m), some (.tup (p.map lD)), none, some (hD (cells0 m.cells)), some (.tup []), none, none] []
      ⟨rfl, cells0_len, Nat.le_trans cells0_dep (by decide), by simpa using hl, hp, _, _, _, rfl⟩
  · obtain ⟨v2, st2, e2, _, _, _, _, _, x, y, z, rfl⟩ := fi
    have par : sPar 3 4 (zCons (zUn oTupRg (zBin (qOp oIx) (zVar 0) (zC (.int 0)))) (zCons (zTup zNil) zNil)) [some (mD m), some (.tup (p.map lD)), none, none, none, none, none] [] = .nx [some (mD m), some (.tup (p.map lD)), none, some (hD (cells0 m.cells)), some (.tup []), none, none] [] := by
      simp [zVar_s, oIx0, tupRg_cells h2]
    have lp : ∀ b, sFor (zIt (zVar 1)) (gN 2) b [some (mD m), some (.tup (p.map lD)), none, some (hD (cells0 m.cells)), some (.tup []), none, none] [] = zForL (gN 2) b (p.map lD) [some (mD m), some (.tup (p.map lD)), none, some (hD (cells0 m.cells)), some (.tup []), none, none] [] := fun b => rfl
    have pp : D.pure (.tup ((tame m p).map lD)) = true := pures_map pure_lD _
    simp only [sSeq_s, par, sbind_nx] at e2 ⊢
    rw [lp]
    simp only [sSeq_s, e2, sbind_nx, sRet_s, zVar_s, List.getElem?_cons_zero, List.getElem?_cons_succ, bindS_ok, toA, frz_tup]
    exact if_pos pp
  · obtain ⟨rfl, b1, b2, b3, b4, x, y, z, rfl⟩ := hh
    have hin : a.in s.1.length := by rw [b1]; exact b4 a List.mem_cons_self
    have sl := step_len s.1 a
    have sd := step_dep s.1 a
    have cd : zCallA a_l_did (zCons (zVar 3) (zCons (zVar 2) zNil)) [some (mD m), some (.tup (p.map lD)), some (lD a), some (hD s.1), some (.tup (s.2.map lD)), y, z] [] = .ok (hD (step s.1 a)) [] :=
      callA_ok (ds := [hD s.1, lD a]) rfl (by simp [D.pures, D.pure, pures_map pure_tD, pure_lD]) (did_ok (by omega) hin)
    have cm := max_at (h := step s.1 a) (fi := zIt (zVar 5)) (vars := [some (mD m), some (.tup (p.map lD)), some (lD a), some (hD s.1), some (.tup (s.2.map lD)), some (hD (step s.1 a)), z]) (i := 6) (by simp) (by omega) (ne_of_len (sl.trans b1) h1) (by omega) rfl
    have oa : oAdd false (.tup (s.2.map lD)) (.tup [lD a]) ([] : Sto) = .ok (.tup ((s.2 ++ [a]).map lD)) [] := oAdd_hd (b := [a]) (by simp at b3 ⊢; omega)
    refine ⟨_, rfl, ?_⟩
    by_cases q : dmax (step s.1 a) < 6
    · have q' : ((dmax (step s.1 a) : Int) < 6) := by omega
      have tf : tameF s a = (step s.1 a, s.2 ++ [a]) := if_pos q
      rw [tf]
      refine ⟨[some (mD m), some (.tup (p.map lD)), some (lD a), some (hD (step s.1 a)), some (.tup ((s.2 ++ [a]).map lD)), some (hD (step s.1 a)), z], [], .inl ?_, rfl, sl.trans b1, by show dmax (step s.1 a) ≤ 6; omega, by simp at b3 ⊢; omega, fun l hl => b4 l (List.mem_cons_of_mem _ hl), _, _, _, rfl⟩
      simp only [List.set_cons_zero, List.set_cons_succ, sSeq_s, sAsg_s, cd, bindS_ok, gN_s, sbind_nx, sIf_s, zBin_s, cm, bind_ok, zC_s, qOp_s, oLtI_s, quiet_ok, decide_eq_true q', tstS_ok, if_true, sPar_s, zCons_s, zVar_s, List.getElem?_cons_zero, List.getElem?_cons_succ, bindL_ok, zTup_s, zNil_s, lbindL_ok, lbind_ok, List.length_cons, List.length_nil, Nat.zero_add, if_pos k1, oa]
    · have q' : ¬ ((dmax (step s.1 a) : Int) < 6) := by omega
      have tf : tameF s a = s := if_neg q
      rw [tf]
      refine ⟨[some (mD m), some (.tup (p.map lD)), some (lD a), some (hD s.1), some (.tup (s.2.map lD)), some (hD (step s.1 a)), z], [], .inl ?_, rfl, b1, b2, by simp at b3 ⊢; omega, fun l hl => b4 l (List.mem_cons_of_mem _ hl), _, _, _, rfl⟩
      simp only [List.set_cons_zero, List.set_cons_succ, sSeq_s, sAsg_s, cd, bindS_ok, gN_s, sbind_nx, sIf_s, zBin_s, cm, bind_ok, zC_s, qOp_s, oLtI_s, quiet_ok, decide_eq_false q', tstS_ok, Bool.false_eq_true, if_false, sNext_s]
/-! ### the program run, lines lost -/
theorem pys_nats : ∀ S : List Nat, D.pys (S.map fun i : Nat => D.int (i : Int)) = some (S.map fun i : Nat => PyData.int (i : Int))
  | [] => rfl
  | i :: S => by simp [D.pys, D.py, pys_nats S]
theorem lay_nats : ∀ S : List Nat, PyData.canLayAll0 (S.map fun i : Nat => PyData.int (i : Int)) = true
  | [] => rfl
  | i :: S => by simp [PyData.canLayAll0, PyData.canLay0, lay_nats S]
theorem any_nats (k : Nat) : ∀ S : List Nat, ((S.map fun i : Nat => PyData.int (i : Int)).any fun z => PyData.eqv z (.int (k : Int))) = decide (k ∈ S)
  | [] => rfl
  | i :: S => by
    rw [List.map_cons, List.any_cons, any_nats k S]
    have : PyData.eqv (.int (i : Int)) (.int (k : Int)) = decide (k = i) := by
      show ((i : Int) == (k : Int)) = _
      rw [Bool.eq_iff_iff]
      simp
      omega
    rw [this]
    simp [List.mem_cons]
abbrev sD (S : List Nat) : D := .tup (S.map fun i : Nat => D.int (i : Int))
theorem in_ok {k : Nat} {S : List Nat} {neg : Bool} {st : Sto} : oInD neg (.int (k : Int)) (sD S) st = .ok (.bl (if neg then !decide (k ∈ S) else decide (k ∈ S))) st := by
  unfold oInD
  simp only [der_int, der_tup_s]
  have e1 : D.py (.int (k : Int)) = some (.int (k : Int)) := rfl
  have e2 : D.py (sD S) = some (.tuple (S.map fun i : Nat => PyData.int (i : Int))) := by
    show (D.pys _).map _ = _
    rw [pys_nats]; rfl
  rw [e1, e2]
  have e3 : SeqAt.shaped (.int (k : Int)) = true := rfl
  simp only [e3, lay_nats, any_nats, Bool.and_self, if_true]
def ranF (S : List Nat) (h : List Tm) (i : Nat) (l : Ln) : List Tm := if i ∈ S then h else step h l
def ran (m : Mc) (p : List Ln) (S : List Nat) : List Tm := foldE (ranF S) (cells0 m.cells) 0 p
theorem pure_nats (S : List Nat) : D.pures (S.map fun i : Nat => D.int (i : Int)) = true := pures_map (fun _ => rfl) S
theorem ran_ok {m : Mc} {p : List Ln} {S : List Nat} (h1 : 1 ≤ m.cells) (h2 : m.cells ≤ 1000) (hp : ∀ l ∈ p, l.in m.cells) (hl : p.length ≤ 7) : a_l_ran [mD m, .tup (p.map lD), sD S] = .ok (hD (ran m p S)) := by
  have e : a_l_ran [mD m, .tup (p.map lD), sD S] = toA (m_l_ran [some (mD m), some (.tup (p.map lD)), some (sD S), none, none, none, none] []) := rfl
  rw [e]
  unfold m_l_ran
  have fi := for_enum (T := lD) (g := gT (gConsZ (gN 4) (gConsZ (gN 5) gNilZ))) (F := ranF S) (b := sIf (zBin (qOp (oInD true)) (zVar 4) (zVar 2)) (sSeq (sAsg (zCallA a_l_did (zCons (zVar 3) (zCons (zVar 5) zNil))) (gN 3))
      (sIf (zBin (qOp oGtI) (zApp (qOpN oMax) (zCons (zLc false (zIt (zVar 3)) (gN 6) zYes (zCallA a_l_deep (zCons (zVar 6) zNil)) [6]) zNil)) (zC (.int 8))) (sRet (zC .non)) sNext)) sNext)
      (I := fun n r s v st => st = [] ∧ s.length = m.cells ∧ dmax s ≤ 1 + n ∧ n + r.length ≤ 7 ∧ (∀ l ∈ r, l.in m.cells) ∧ ∃ x y z, v = [some (mD m), some (.tup (p.map lD)), some (sD S), some (hD s), x, y, z])
      (fun s n a r vars st hh => ?_) p 0 (cells0 m.cells) [some (mD m), some (.tup (p.map lD)), some (sD S), some (hD (cells0 m.cells)), none, none, none] []
      ⟨rfl, cells0_len, cells0_dep, by omega, hp, _, _, _, rfl⟩
  · obtain ⟨v2, st2, e2, _, _, _, _, _, x, y, z, rfl⟩ := fi
    have pp : D.pure (hD (ran m p S)) = true := pures_map pure_tD _
    have lp : ∀ b, sFor (zEnum (zVar 1)) (gT (gConsZ (gN 4) (gConsZ (gN 5) gNilZ))) b [some (mD m), some (.tup (p.map lD)), some (sD S), some (hD (cells0 m.cells)), none, none, none] [] = zForL (gT (gConsZ (gN 4) (gConsZ (gN 5) gNilZ))) b (pairs 0 (p.map lD)) [some (mD m), some (.tup (p.map lD)), some (sD S), some (hD (cells0 m.cells)), none, none, none] [] := fun b => rfl
    have st : sAsg (zUn oTupRg (zBin (qOp oIx) (zVar 0) (zC (.int 0)))) (gN 3) [some (mD m), some (.tup (p.map lD)), some (sD S), none, none, none, none] [] = .nx [some (mD m), some (.tup (p.map lD)), some (sD S), some (hD (cells0 m.cells)), none, none, none] [] := by
      simp [zVar_s, oIx0, tupRg_cells h2]
    simp only [sSeq_s, st, sbind_nx, lp, e2, sRet_s, zVar_s, List.getElem?_cons_zero, List.getElem?_cons_succ, bindS_ok, toA, frz_tup]
    exact if_pos pp
  · obtain ⟨rfl, b1, b2, b3, b4, x, y, z, rfl⟩ := hh
    have hin : a.in s.length := by rw [b1]; exact b4 a List.mem_cons_self
    have sl := step_len s a
    have sd := step_dep s a
    simp only [List.length_cons] at b3
    refine ⟨_, rfl, ?_⟩
    by_cases q : n ∈ S
    · have tf : ranF S s n a = s := if_pos q
      rw [tf]
      refine ⟨[some (mD m), some (.tup (p.map lD)), some (sD S), some (hD s), some (.int n), some (lD a), z], [], .inl ?_, rfl, b1, by omega, by omega, fun l hl => b4 l (List.mem_cons_of_mem _ hl), _, _, _, rfl⟩
      simp only [List.set_cons_zero, List.set_cons_succ, sIf_s, zBin_s, zVar_s, List.getElem?_cons_zero, List.getElem?_cons_succ, bind_ok, qOp_s, in_ok, decide_eq_true q, Bool.not_true, if_true, quiet_ok, tstS_ok, Bool.false_eq_true, if_false, sNext_s]
    · have tf : ranF S s n a = step s a := if_neg q
      rw [tf]
      have cd : zCallA a_l_did (zCons (zVar 3) (zCons (zVar 5) zNil)) [some (mD m), some (.tup (p.map lD)), some (sD S), some (hD s), some (.int n), some (lD a), z] [] = .ok (hD (step s a)) [] :=
        callA_ok (ds := [hD s, lD a]) rfl (by simp [D.pures, D.pure, pures_map pure_tD, pure_lD]) (did_ok (by omega) hin)
      have cm := max_at (h := step s a) (fi := zIt (zVar 3)) (vars := [some (mD m), some (.tup (p.map lD)), some (sD S), some (hD (step s a)), some (.int n), some (lD a), z]) (i := 6) (by simp) (by omega) (ne_of_len (sl.trans b1) h1) (by omega) rfl
      have nd : ¬ ((8 : Int) < (dmax (step s a) : Int)) := by omega
      refine ⟨[some (mD m), some (.tup (p.map lD)), some (sD S), some (hD (step s a)), some (.int n), some (lD a), z], [], .inl ?_, rfl, sl.trans b1, by omega, by omega, fun l hl => b4 l (List.mem_cons_of_mem _ hl), _, _, _, rfl⟩
      simp only [List.set_cons_zero, List.set_cons_succ, sIf_s, zBin_s, zVar_s, List.getElem?_cons_zero, List.getElem?_cons_succ, bind_ok, qOp_s, in_ok, decide_eq_false q, Bool.not_false, if_true, quiet_ok, tstS_ok, sSeq_s, sAsg_s, cd, bindS_ok, gN_s, sbind_nx, cm, zC_s, oGtI_s, decide_eq_false nd, Bool.false_eq_true, if_false, sNext_s]
/-! ### what the script draws -/
def lines (m : Mc) : List Ln := (List.range m.cells).flatMap fun c => (foldE (fun (acc : List Ln) k r => acc ++ (List.range m.cells).flatMap fun a => if r = 1 then [Ln.f1 c k a] else (List.range m.cells).map fun b => Ln.f2 c k a b) [] 0 m.fns) ++ ((List.range m.cells).filter fun a => decide (a ≠ c)).map fun a => Ln.cp c a
theorem lines_all : machines.all (fun m => okD (a_l_every_line [mD m]) (.lst ((lines m).map lD))) = true := by decide +kernel
theorem lines_ok {m : Mc} (h : m ∈ machines) : a_l_every_line [mD m] = .ok (.lst ((lines m).map lD)) := okD_eq (List.all_eq_true.mp lines_all m h)
def linB (m : Mc) (l : Ln) : Bool := Ln.ok m l
theorem lines_fine : machines.all (fun m => (lines m).all (fun l => Ln.ok m l) && decide (1 ≤ (lines m).length) && decide ((lines m).length ≤ 1000) && decide (1 ≤ m.cells) && decide (m.cells ≤ 3)) = true := by decide +kernel
theorem Ln.ok_in {m : Mc} {l : Ln} (h : Ln.ok m l = true) : l.in m.cells := by
  cases l <;> simp [Ln.ok] at h <;> simp [Ln.in] <;> omega
theorem machine_ok {ns : List Int} {i s b : Int} (hl : ns.length ≤ 63) (hi : 0 ≤ i) : ∃ m i' s' b', b_l_machine [.loc 0] (row ns i s b) = .ok (mD m) (row ns i' s' b') ∧ m ∈ machines ∧ 0 ≤ i' := by
  have e : b_l_machine [.loc 0] (row ns i s b) = toB (m_l_machine [some (.loc 0), none, none, none] (row ns i s b)) := rfl
  rw [e]
  unfold m_l_machine
  have hz := sizeLine_val
  have k2 : 2 ≤ sizeLine := by omega
  obtain ⟨c, i1, s1, b1, e1, c0, c3, g1⟩ := taken_ok (ns := ns) (i := i) (s := s) (b := b) (many := 3) hl (by omega) (by omega) hi
  obtain ⟨f, i2, s2, b2, e2, f0, f2, g2⟩ := taken_ok (ns := ns) (i := i1) (s := s1) (b := b1) (many := 2) hl (by omega) (by omega) g1
  obtain ⟨x, i3, s3, b3, e3, x0, x2, g3⟩ := taken_ok (ns := ns) (i := i2) (s := s2) (b := b2) (many := 2) hl (by omega) (by omega) g2
  obtain ⟨y, i4, s4, b4, e4, y0, y2, g4⟩ := taken_ok (ns := ns) (i := i3) (s := s3) (b := b3) (many := 2) hl (by omega) (by omega) g3
  have par : sPar 1 2 (zCons (zBin (qOp (oAdd false)) (zC (.int 1)) (zCallB b_l_taken (zCons (zVar 0) (zCons (zC (.int 3)) zNil)))) (zCons (zBin (qOp (oAdd false)) (zC (.int 1)) (zCallB b_l_taken (zCons (zVar 0) (zCons (zC (.int 2)) zNil)))) zNil)) [some (.loc 0), none, none, none] (row ns i s b) = .nx [some (.loc 0), some (.int (1 + c)), some (.int (1 + f)), none] (row ns i2 s2 b2) := by
    simp [zVar_s, e1, e2]
  have hf : f = 0 ∨ f = 1 := by omega
  have hx : x = 0 ∨ x = 1 := by omega
  have hy : y = 0 ∨ y = 1 := by omega
  have hc : c = 0 ∨ c = 1 ∨ c = 2 := by omega
  have key : ∃ (fs : List Nat) (i' s' b' : Int), zLc false (zRng1 (zCons (zVar 2) zNil)) (gN 3) zYes (zBin (qOp (oAdd false)) (zC (.int 1)) (zCallB b_l_taken (zCons (zVar 0) (zCons (zC (.int 2)) zNil)))) [3] [some (.loc 0), some (.int (1 + c)), some (.int (1 + f)), none] (row ns i2 s2 b2) = .ok (.lst (fs.map fun r : Nat => D.int (r : Int))) (row ns i' s' b') ∧ 0 ≤ i' ∧ fs ∈ [[1], [2], [1, 1], [1, 2], [2, 1], [2, 2]] := by
    rcases hf with rfl | rfl
    · refine ⟨[(1 + x).toNat], i3, s3, b3, ?_, g3, by rcases hx with rfl | rfl <;> simp⟩
      refine zLc_ok (is := [.int 0]) (st1 := row ns i2 s2 b2) rfl ?_ (by simp; omega)
      rcases hx with rfl | rfl <;> simp [zLcL, wipeD, zVar_s, e3]
    · refine ⟨[(1 + x).toNat, (1 + y).toNat], i4, s4, b4, ?_, g4, by rcases hx with rfl | rfl <;> rcases hy with rfl | rfl <;> simp⟩
      refine zLc_ok (is := [.int 0, .int 1]) (st1 := row ns i2 s2 b2) rfl ?_ (by simp; omega)
      rcases hx with rfl | rfl <;> rcases hy with rfl | rfl <;> simp [zLcL, wipeD, zVar_s, e3, e4]
  obtain ⟨fs, i5, s5, b5, e5, g5, hm⟩ := key
  refine ⟨⟨(1 + c).toNat, fs⟩, i5, s5, b5, ?_, ?_, g5⟩
  · have ec : ((1 + c).toNat : Int) = 1 + c := by omega
    simp only [sSeq_s, par, sbind_nx, sRet_s, zTup_s, zCons_s, zVar_s, List.getElem?_cons_zero, List.getElem?_cons_succ, bindL_ok, zApp_s, e5, zNil_s, lbindL_ok, lbind_ok, qOpN_s, oTuple_lst, quiet_ok, List.length_cons, List.length_nil, Nat.zero_add, Nat.reduceAdd, if_pos k2, bindS_ok, toB]
    show R.ok (.tup [.int (1 + c), _]) _ = R.ok (.tup [.int ((1 + c).toNat : Int), _]) _
    rw [ec]
  · unfold machines
    rw [List.mem_flatMap]
    refine ⟨(1 + c).toNat, by rcases hc with rfl | rfl | rfl <;> simp, List.mem_map.mpr ⟨fs, hm, rfl⟩⟩
theorem oLen_lst {ds : List D} {st : Sto} (h : ds.length ≤ sizeLine) : oLen [.lst ds] st = .ok (.int ds.length) st := by
  unfold oLen lenD
  simp only [der_lst_s, if_pos h]
theorem oLen_tup {ds : List D} {st : Sto} (h : ds.length ≤ sizeLine) : oLen [.tup ds] st = .ok (.int ds.length) st := by
  unfold oLen lenD
  simp only [der_tup_s, if_pos h]
theorem oIx_lst {α : Type} {T : α → D} {ls : List α} {v : Int} {st : Sto} (h0 : 0 ≤ v) (h : v < ls.length) : ∃ a ∈ ls, oIx (.lst (ls.map T)) (.int v) st = .ok (T a) st := by
  obtain ⟨n, rfl⟩ := Int.eq_ofNat_of_zero_le h0
  have hn : n < ls.length := by omega
  refine ⟨ls[n], List.getElem_mem hn, ?_⟩
  unfold oIx
  simp only [der_lst_s]
  rw [atI_nat, List.getElem?_map, List.getElem?_eq_getElem hn]
  rfl
theorem pick_ok {α : Type} {T : α → D} {ls : List α} {ns : List Int} {i s b : Int} (hl : ns.length ≤ 63) (hi : 0 ≤ i) (h1 : 1 ≤ ls.length) (h2 : ls.length ≤ 1000) :
    ∃ a i' s' b', a ∈ ls ∧ b_l_pick [.loc 0, .lst (ls.map T)] (row ns i s b) = .ok (T a) (row ns i' s' b') ∧ 0 ≤ i' := by
  have e : b_l_pick [.loc 0, .lst (ls.map T)] (row ns i s b) = toB (m_l_pick [some (.loc 0), some (.lst (ls.map T))] (row ns i s b)) := rfl
  have hz := sizeLine_val
  obtain ⟨v, i1, s1, b1, e1, v0, v1, g1⟩ := taken_ok (ns := ns) (i := i) (s := s) (b := b) (many := ls.length) hl (by omega) (by omega) hi
  obtain ⟨a, ha, e2⟩ := oIx_lst (T := T) (ls := ls) (v := v) (st := row ns i1 s1 b1) v0 v1
  refine ⟨a, i1, s1, b1, ha, ?_, g1⟩
  have e3 : ∀ st : Sto, oLen [.lst (ls.map T)] st = .ok (.int ls.length) st := fun st => by rw [oLen_lst (by simp; omega), List.length_map]
  rw [e]
  unfold m_l_pick
  simp only [sRet_s, zBin_s, zVar_s, List.getElem?_cons_zero, List.getElem?_cons_succ, bind_ok, zCallB_s, zCons_s, bindL_ok, zApp_s, zNil_s, lbindL_ok, lbind_ok, qOpN_s, e3, quiet_ok, e1, qOp_s, e2, bindS_ok, toB]
abbrev RowI (ns : List Int) (st : Sto) : Prop := ∃ i s b, st = row ns i s b ∧ 0 ≤ i
theorem program_ok {m : Mc} {ns : List Int} {i s b : Int} {many : Nat} (hl : ns.length ≤ 63) (hi : 0 ≤ i) (hm : m ∈ machines) (h7 : many ≤ 100) :
    ∃ (p : List Ln) (i' s' b' : Int), b_l_program [.loc 0, mD m, .int many] (row ns i s b) = .ok (.tup (p.map lD)) (row ns i' s' b') ∧ p.length ≤ many ∧ (∀ l ∈ p, l ∈ lines m) ∧ 0 ≤ i' := by
  have e : b_l_program [.loc 0, mD m, .int many] (row ns i s b) = toB (m_l_program [some (.loc 0), some (mD m), some (.int many), none, none] (row ns i s b)) := rfl
  have hz := sizeLine_val
  have fine := List.all_eq_true.mp lines_fine m hm
  simp only [Bool.and_eq_true, decide_eq_true_eq, List.all_eq_true] at fine
  obtain ⟨⟨⟨⟨f1, f2⟩, f3⟩, f4⟩, f5⟩ := fine
  obtain ⟨v, i1, s1, b1, e1, v0, v1, g1⟩ := taken_ok (ns := ns) (i := i) (s := s) (b := b) (many := many + 1) hl (by omega) (by omega) hi
  have vals : D.pures [mD m] = true := by simp [D.pures, D.pure]; exact pures_map (fun _ => rfl) _
  have cl : zCallA a_l_every_line (zCons (zVar 1) zNil) [some (.loc 0), some (mD m), some (.int many), none, none] (row ns i s b) = .ok (.lst ((lines m).map lD)) (row ns i s b) := callA_ok (ds := [mD m]) rfl vals (lines_ok hm)
  obtain ⟨ys, st2, e2, ⟨i2, s2, b2, rfl, g2⟩, hJ, hlen⟩ := lc_inv (g := gN 4) (f := zCallB b_l_pick (zCons (zVar 0) (zCons (zVar 3) zNil))) (v0 := [some (.loc 0), some (mD m), some (.int many), some (.lst ((lines m).map lD)), none]) (I := RowI ns) (J := fun y => ∃ l, l ∈ lines m ∧ y = lD l)
    (fun d st ⟨i, s, b, e, g⟩ => by
      subst e
      obtain ⟨a, i', s', b', ha, e', g'⟩ := pick_ok (T := lD) (ls := lines m) (ns := ns) (i := i) (s := s) (b := b) hl g f2 f3
      exact ⟨_, rfl, lD a, row ns i' s' b', e', ⟨a, ha, rfl⟩, i', s', b', rfl, g'⟩) (rng 0 v.toNat) (row ns i1 s1 b1) ⟨i1, s1, b1, rfl, g1⟩
  obtain ⟨p, rfl, hp⟩ := map_of hJ
  rw [rng_len, List.length_map] at hlen
  refine ⟨p, i2, s2, b2, ?_, by omega, hp, g2⟩
  have it : zRng1 (zCons (zCallB b_l_taken (zCons (zVar 0) (zCons (zBin (qOp (oAdd false)) (zVar 2) (zC (.int 1))) zNil))) zNil) [some (.loc 0), some (mD m), some (.int many), some (.lst ((lines m).map lD)), none] (row ns i s b) = .ok (rng 0 v.toNat) (row ns i1 s1 b1) := by
    simp only [zRng1_s, zCons_s, zCallB_s, zVar_s, List.getElem?_cons_zero, List.getElem?_cons_succ, bindL_ok, zBin_s, bind_ok, zC_s, qOp_s, oAdd_s, quiet_ok, zNil_s, lbindL_ok, lbind_ok, e1, rasL_ok, rngs1]
    rw [if_pos (by simp; omega)]
  have lc := zLc_ok (own := [4]) it e2 (by simp; omega)
  rw [e]
  unfold m_l_program
  simp only [sSeq_s, sAsg_s, cl, bindS_ok, gN_s, List.set_cons_zero, List.set_cons_succ, sbind_nx, sRet_s, zApp_s, zCons_s, lc, bindL_ok, zNil_s, lbindL_ok, lbind_ok, qOpN_s, oTuple_lst, quiet_ok, toB]
/-! ### the wishes -/
abbrev Wh := Nat × Tm
def wD (w : Wh) : D := .tup [.int w.1, tD w.2]
/-- fine wishes -/
structure WhOk (m : Mc) (ws : List Wh) : Prop where
  ne : ws ≠ []
  up : ws.Pairwise fun a b => a.1 < b.1
  at_ : ∀ w ∈ ws, w.1 < m.cells
  ok : ∀ w ∈ ws, Tm.ok m w.2 = true
  dp : ∀ w ∈ ws, dep w.2 ≤ 8
structure HOkk (m : Mc) (h : List Tm) : Prop where
  len : h.length = m.cells
  ok : ∀ t ∈ h, Tm.ok m t = true
theorem cells0_ok {m : Mc} : HOkk m (cells0 m.cells) := ⟨cells0_len, fun t ht => by
  simp only [cells0, List.mem_map, List.mem_range] at ht
  obtain ⟨i, hi, rfl⟩ := ht
  simpa [Tm.ok] using hi⟩
theorem getD_ok {m : Mc} {h : List Tm} (H : HOkk m h) {i : Nat} (hi : i < m.cells) : Tm.ok m (h.getD i (.c 0)) = true := by
  rw [List.getD_eq_getElem?_getD, List.getElem?_eq_getElem (by rw [H.len]; exact hi)]
  exact H.ok _ (List.getElem_mem _)
theorem step_ok {m : Mc} {h : List Tm} {l : Ln} (H : HOkk m h) (hl : Ln.ok m l = true) : HOkk m (step h l) := by
  refine ⟨(step_len h l).trans H.len, fun t ht => ?_⟩
  rcases List.mem_or_eq_of_mem_set ht with ht | rfl
  · exact H.ok t ht
  · cases l with
    | cp c a => simp [Ln.ok] at hl; exact getD_ok H hl.1.2
    | f1 c k a =>
      simp [Ln.ok] at hl
      have := getD_ok H hl.1.2
      simp [ln, Tm.ok, hl.2]
      simpa using this
    | f2 c k a b =>
      simp [Ln.ok] at hl
      have h1 := getD_ok H hl.1.1.2
      have h2 := getD_ok H hl.1.2
      simp [ln, Tm.ok, hl.2]
      exact ⟨by simpa using h1, by simpa using h2⟩
theorem ran_fine {m : Mc} {S : List Nat} : ∀ {p : List Ln} {h : List Tm} {n : Nat}, HOkk m h → (∀ l ∈ p, Ln.ok m l = true) → HOkk m (foldE (ranF S) h n p)
  | [], _, _, H, _ => H
  | l :: p, h, n, H, hp => by
    have h1 : HOkk m (ranF S h n l) := by
      unfold ranF
      split
      · exact H
      · exact step_ok H (hp l List.mem_cons_self)
    exact ran_fine (p := p) h1 fun l hl => hp l (List.mem_cons_of_mem _ hl)
theorem ran_dep {S : List Nat} : ∀ {p : List Ln} {h : List Tm} {n : Nat}, dmax (foldE (ranF S) h n p) ≤ dmax h + p.length
  | [], _, _ => Nat.le_add_right _ _
  | l :: p, h, n => by
    have ih := ran_dep (S := S) (p := p) (h := ranF S h n l) (n := n + 1)
    have : dmax (ranF S h n l) ≤ dmax h + 1 := by
      unfold ranF
      split
      · omega
      · exact step_dep h l
    simp only [List.length_cons]
    show dmax (foldE (ranF S) (ranF S h n l) (n + 1) p) ≤ _
    omega
theorem tameF_sub {m : Mc} : ∀ {p : List Ln} {s : List Tm × List Ln}, (∀ l ∈ p, Ln.ok m l = true) → (∀ l ∈ s.2, Ln.ok m l = true) → (∀ l ∈ (p.foldl tameF s).2, Ln.ok m l = true) ∧ (p.foldl tameF s).2.length ≤ s.2.length + p.length
  | [], s, _, h => ⟨h, Nat.le_refl _⟩
  | l :: p, s, hp, h => by
    have h1 : ∀ q ∈ (tameF s l).2, Ln.ok m q = true := by
      unfold tameF
      split
      · intro q hq
        rcases List.mem_append.mp hq with hq | hq
        · exact h q hq
        · rw [List.mem_singleton.mp hq]; exact hp l List.mem_cons_self
      · exact h
    have h2 : (tameF s l).2.length ≤ s.2.length + 1 := by
      unfold tameF
      split <;> simp
    have ih := tameF_sub (p := p) (s := tameF s l) (fun l hl => hp l (List.mem_cons_of_mem _ hl)) h1
    refine ⟨ih.1, ?_⟩
    have := ih.2
    simp only [List.length_cons, List.foldl_cons]
    omega
theorem tame_fine {m : Mc} {p : List Ln} (hp : ∀ l ∈ p, Ln.ok m l = true) : (∀ l ∈ tame m p, Ln.ok m l = true) ∧ (tame m p).length ≤ p.length := by
  have := tameF_sub (m := m) (p := p) (s := (cells0 m.cells, [])) hp (by simp)
  simpa [tame] using this
def seeds (m : Mc) : List Tm := [.c 0, if m.fns.getD 0 1 = 1 then .f1 0 (.c 0) else .f2 0 (.c 0) (.c 0)]
def okS (r : R) (d : D) (st : Sto) : Bool := match r with
  | .ok e st' => D.beq e d && D.beqs (st'.map (·.2)) (st.map (·.2)) && decide (st'.map (·.1) = st.map (·.1))
  | _ => false
theorem seeds_fine : machines.all (fun m => (seeds m).all fun t => Tm.ok m t && decide (dep t ≤ 2)) = true := by decide +kernel
theorem mD_pure (m : Mc) : D.pures [mD m] = true := by simp [D.pures, D.pure]; exact pures_map (fun _ => rfl) _
theorem mD_pure1 (m : Mc) : D.pure (mD m) = true := by have := mD_pure m; simpa [D.pures] using this
theorem fns0 {a : Nat} {l : List Nat} {st : Sto} : oIx (fnsD (a :: l)) (.int 0) st = .ok (.int (a : Int)) st := oIx0
theorem seeds_ok {m : Mc} (hm : m ∈ machines) {x y z u : Option D} {st : Sto} : zLst false (zCons (zC (.int 0)) (zCons (zBin (qOp (oAdd false)) (zTup (zCons (zC (.int 0)) zNil)) (zBin (qOp oMul) (zTup (zCons (zC (.int 0)) zNil)) (zBin (qOp oIx) (zBin (qOp oIx) (zVar 1) (zC (.int 1))) (zC (.int 0))))) zNil)) [some (.loc 0), some (mD m), x, y, z, u] st = .ok (.lst ((seeds m).map tD)) st := by
  simp only [machines, List.mem_flatMap, List.mem_map, List.mem_cons, List.not_mem_nil, or_false] at hm
  obtain ⟨c, hc, f, hf, rfl⟩ := hm
  have hz := sizeLine_val
  have k1 : 1 ≤ sizeLine := by omega
  have k2 : 2 ≤ sizeLine := by omega
  have k3 : 3 ≤ sizeLine := by omega
  rcases hf with rfl | rfl | rfl | rfl | rfl | rfl <;> simp [zVar_s, oIx1, oIx0, fns0, k1, k2, k3, oMul, orO, oMulI, oII, oMulT, oAdd_tup, seeds, tD]
theorem list_of_len {α : Type} {T : α → D} {P : α → Prop} {ys : List D} {n : Nat} (h : ∀ y ∈ ys, ∃ a, P a ∧ y = T a) (hl : ys.length = n) : ∃ l : List α, ys = l.map T ∧ (∀ a ∈ l, P a) ∧ l.length = n := by
  obtain ⟨l, rfl, hp⟩ := map_of h
  exact ⟨l, rfl, hp, by simpa using hl⟩
theorem pures2 {a b : D} (h1 : D.pure a = true) (h2 : D.pure b = true) : D.pures [a, b] = true := by simp [D.pures, h1, h2]
theorem pures3 {a b c : D} (h1 : D.pure a = true) (h2 : D.pure b = true) (h3 : D.pure c = true) : D.pures [a, b, c] = true := by simp [D.pures, h1, h2, h3]
theorem pure_ls (p : List Ln) : D.pure (.tup (p.map lD)) = true := pures_map pure_lD p
theorem pure_hD (h : List Tm) : D.pure (hD h) = true := pures_map pure_tD h
theorem pure_sD (S : List Nat) : D.pure (sD S) = true := pure_nats S
abbrev wA : ZS := (sSeq (sAsg (zCallA a_l_tame (zCons (zVar 1) (zCons (zCallB b_l_program (zCons (zVar 0) (zCons (zVar 1) (zCons (zC (.int 5)) zNil)))) zNil))) (gN 3))
      (sAsg (zCallA a_l_ran (zCons (zVar 1) (zCons (zVar 3) (zCons (zTup zNil) zNil)))) (gN 4)))
theorem wA_ok {m : Mc} {ns : List Int} {i s b : Int} (hl : ns.length ≤ 63) (hi : 0 ≤ i) (hm : m ∈ machines) :
    ∃ (h : List Tm) (i' s' b' : Int) (x : Option D), wA [some (.loc 0), some (mD m), none, none, none, none] (row ns i s b) = .nx [some (.loc 0), some (mD m), none, x, some (hD h), none] (row ns i' s' b') ∧ HOkk m h ∧ dmax h ≤ 6 ∧ 0 ≤ i' := by
  have fine := List.all_eq_true.mp lines_fine m hm
  simp only [Bool.and_eq_true, decide_eq_true_eq, List.all_eq_true] at fine
  obtain ⟨⟨⟨⟨f1, f2⟩, f3⟩, f4⟩, f5⟩ := fine
  have hz := sizeLine_val
  have k0 : 0 ≤ sizeLine := by omega
  obtain ⟨p, i1, s1, b1, e1, pl, pm, g1⟩ := program_ok (m := m) (ns := ns) (i := i) (s := s) (b := b) (many := 5) hl hi hm (by decide)
  have pok : ∀ l ∈ p, Ln.ok m l = true := fun l hl => f1 l (pm l hl)
  have pin : ∀ l ∈ p, l.in m.cells := fun l hl => Ln.ok_in (pok l hl)
  obtain ⟨t1, t2⟩ := tame_fine pok
  have tin : ∀ l ∈ tame m p, l.in m.cells := fun l hl => Ln.ok_in (t1 l hl)
  have c1 : zCallA a_l_tame (zCons (zVar 1) (zCons (zCallB b_l_program (zCons (zVar 0) (zCons (zVar 1) (zCons (zC (.int 5)) zNil)))) zNil)) [some (.loc 0), some (mD m), none, none, none, none] (row ns i s b) = .ok (.tup ((tame m p).map lD)) (row ns i1 s1 b1) := by
    refine callA_ok (ds := [mD m, .tup (p.map lD)]) ?_ (pures2 (mD_pure1 m) (pure_ls _)) (tame_ok f4 (by omega) pin (by omega))
    have e1 : b_l_program [.loc 0, mD m, .int 5] (row ns i s b) = .ok (.tup (p.map lD)) (row ns i1 s1 b1) := e1
    simp only [zCons_s, zVar_s, List.getElem?_cons_zero, List.getElem?_cons_succ, bindL_ok, zCallB_s, zC_s, zNil_s, lbindL_ok, lbind_ok, e1]
  have c2 : zCallA a_l_ran (zCons (zVar 1) (zCons (zVar 3) (zCons (zTup zNil) zNil))) [some (.loc 0), some (mD m), none, some (.tup ((tame m p).map lD)), none, none] (row ns i1 s1 b1) = .ok (hD (ran m (tame m p) [])) (row ns i1 s1 b1) := by
    refine callA_ok (ds := [mD m, .tup ((tame m p).map lD), sD []]) ?_ (pures3 (mD_pure1 m) (pure_ls _) (pure_sD [])) (ran_ok f4 (by omega) tin (by omega))
    simp only [zCons_s, zVar_s, List.getElem?_cons_zero, List.getElem?_cons_succ, bindL_ok, zTup_s, zNil_s, lbindL_ok, lbind_ok, List.length_nil, if_pos k0, sD, List.map_nil]
  refine ⟨ran m (tame m p) [], i1, s1, b1, some (.tup ((tame m p).map lD)), ?_, ran_fine cells0_ok t1, ?_, g1⟩
  · simp only [wA, sSeq_s, sAsg_s, c1, bindS_ok, gN_s, List.set_cons_zero, List.set_cons_succ, sbind_nx, c2]
  · have := ran_dep (S := []) (p := tame m p) (h := cells0 m.cells) (n := 0)
    have := cells0_dep (n := m.cells)
    unfold ran
    omega
abbrev wB : ZS := (sAsg (zApp (qOpN oTuple) (zCons (zLc false (zRng1 (zCons (zBin (qOp oIx) (zVar 1) (zC (.int 0))) zNil)) (gN 5) zYes (zCallB b_l_pick (zCons (zVar 0) (zCons (zLst false (zCons (zC (.int 0)) (zCons (zBin (qOp (oAdd false)) (zTup (zCons (zC (.int 0)) zNil)) (zBin (qOp oMul) (zTup (zCons (zC (.int 0)) zNil)) (zBin (qOp oIx) (zBin (qOp oIx) (zVar 1) (zC (.int 1))) (zC (.int 0))))) zNil))) zNil))) [5]) zNil)) (gN 4))
theorem rngs_cells {n : Nat} (h : n ≤ 1000) : rngs1 [.int (n : Int)] = some (rng 0 n) := by
  unfold rngs1
  dsimp only
  rw [if_pos (by simp; omega), Int.toNat_natCast]
theorem dmax_of {h : List Tm} {n : Nat} (h1 : 1 ≤ n) (h2 : ∀ t ∈ h, dep t ≤ n) : dmax h ≤ n := (dmax_le h1).2 h2
theorem wB_pick {m : Mc} {ns : List Int} (hl : ns.length ≤ 63) (hm : m ∈ machines) (d : D) (st : Sto) (H : RowI ns st) : ∃ v1, gN 5 d [some (.loc 0), some (mD m), none, none, none, none] = some v1 ∧ ∃ y st', zCallB b_l_pick (zCons (zVar 0) (zCons (zLst false (zCons (zC (.int 0)) (zCons (zBin (qOp (oAdd false)) (zTup (zCons (zC (.int 0)) zNil)) (zBin (qOp oMul) (zTup (zCons (zC (.int 0)) zNil)) (zBin (qOp oIx) (zBin (qOp oIx) (zVar 1) (zC (.int 1))) (zC (.int 0))))) zNil))) zNil)) v1 st = .ok y st' ∧ (∃ t, t ∈ seeds m ∧ y = tD t) ∧ RowI ns st' := by
  obtain ⟨i, s, b, e, g⟩ := H
  subst e
  obtain ⟨a, i', s', b', ha, e', g'⟩ := pick_ok (T := tD) (ls := seeds m) (ns := ns) (i := i) (s := s) (b := b) hl g (by simp [seeds]) (by simp [seeds])
  refine ⟨[some (.loc 0), some (mD m), none, none, none, some d], rfl, tD a, row ns i' s' b', ?_, ⟨a, ha, rfl⟩, i', s', b', rfl, g'⟩
  have sd := seeds_ok hm (x := none) (y := none) (z := none) (u := some d) (st := row ns i s b)
  generalize hq : zLst false (zCons (zC (.int 0)) (zCons (zBin (qOp (oAdd false)) (zTup (zCons (zC (.int 0)) zNil)) (zBin (qOp oMul) (zTup (zCons (zC (.int 0)) zNil)) (zBin (qOp oIx) (zBin (qOp oIx) (zVar 1) (zC (.int 1))) (zC (.int 0))))) zNil)) = q at sd ⊢
  simp only [zCallB_s, zCons_s, zVar_s, List.getElem?_cons_zero, bindL_ok, sd, zNil_s, lbindL_ok, lbind_ok, e']
theorem rng1_of {l : ZL} {vars : Vars} {st st1 : Sto} {ds is : List D} (h1 : l vars st = .ok ds st1) (h2 : rngs1 ds = some is) : zRng1 l vars st = .ok is st1 := by
  unfold zRng1
  rw [h1]
  unfold Rl.asL
  dsimp only
  rw [h2]
theorem wB_it {m : Mc} {ns : List Int} {i s b : Int} (h3 : m.cells ≤ 3) : zRng1 (zCons (zBin (qOp oIx) (zVar 1) (zC (.int 0))) zNil) [some (.loc 0), some (mD m), none, none, none, none] (row ns i s b) = .ok (rng 0 m.cells) (row ns i s b) := by
  have e1 : zCons (zBin (qOp oIx) (zVar 1) (zC (.int 0))) zNil [some (.loc 0), some (mD m), none, none, none, none] (row ns i s b) = .ok [.int (m.cells : Int)] (row ns i s b) := by
    simp only [zCons_s, zBin_s, zVar_s, List.getElem?_cons_zero, List.getElem?_cons_succ, bind_ok, zC_s, qOp_s, oIx0, quiet_ok, bindL_ok, zNil_s, lbindL_ok]
  exact rng1_of e1 (rngs_cells (by omega))
theorem wB_ok {m : Mc} {ns : List Int} {i s b : Int} (hl : ns.length ≤ 63) (hi : 0 ≤ i) (hm : m ∈ machines) :
    ∃ (h : List Tm) (i' s' b' : Int) (x : Option D), wB [some (.loc 0), some (mD m), none, none, none, none] (row ns i s b) = .nx [some (.loc 0), some (mD m), none, x, some (hD h), none] (row ns i' s' b') ∧ HOkk m h ∧ dmax h ≤ 6 ∧ 0 ≤ i' := by
  have fine := List.all_eq_true.mp lines_fine m hm
  simp only [Bool.and_eq_true, decide_eq_true_eq, List.all_eq_true] at fine
  obtain ⟨⟨⟨⟨f1, f2⟩, f3⟩, f4⟩, f5⟩ := fine
  have sf := List.all_eq_true.mp seeds_fine m hm
  simp only [List.all_eq_true, Bool.and_eq_true, decide_eq_true_eq] at sf
  have hz := sizeLine_val
  obtain ⟨ys, st2, e2, ⟨i2, s2, b2, rfl, g2⟩, hJ, hlen⟩ := lc_inv (g := gN 5) (f := zCallB b_l_pick (zCons (zVar 0) (zCons (zLst false (zCons (zC (.int 0)) (zCons (zBin (qOp (oAdd false)) (zTup (zCons (zC (.int 0)) zNil)) (zBin (qOp oMul) (zTup (zCons (zC (.int 0)) zNil)) (zBin (qOp oIx) (zBin (qOp oIx) (zVar 1) (zC (.int 1))) (zC (.int 0))))) zNil))) zNil)))
    (v0 := [some (.loc 0), some (mD m), none, none, none, none]) (I := RowI ns) (J := fun y => ∃ t, t ∈ seeds m ∧ y = tD t)
    (fun d st H => wB_pick hl hm d st H) (rng 0 m.cells) (row ns i s b) ⟨i, s, b, rfl, hi⟩
  obtain ⟨h, rfl, hp, hn⟩ := list_of_len hJ (hlen.trans rng_len)
  have it := wB_it (m := m) (ns := ns) (i := i) (s := s) (b := b) f5
  have lc := zLc_ok (own := [5]) it e2 (by simp; omega)
  refine ⟨h, i2, s2, b2, none, ?_, ⟨hn, fun t ht => (sf t (hp t ht)).1⟩, dmax_of (by decide) fun t ht => Nat.le_trans (sf t (hp t ht)).2 (by decide), g2⟩
  simp only [wB, sAsg_s, zApp_s]
  rw [zCons_s, lc]
  simp only [bindL_ok, zNil_s, lbindL_ok, lbind_ok, qOpN_s, oTuple_lst, quiet_ok, bindS_ok, gN_s, List.set_cons_zero, List.set_cons_succ]
end Nk05

set_option Elab.async false
set_option linter.all false
set_option maxRecDepth 100000
set_option maxHeartbeats 2000000
namespace Nk05
open PySem PySem.Spec PyProof.Rows L2 Zl
/-! ### data that == compares -/
structure EqT {α : Type} (T : α → D) (P : α → PyData) (n : Nat) (Q : α → Prop) : Prop where
  py : ∀ a, D.py (T a) = some (P a)
  lay : ∀ a, PyData.canLay0 (P a) = true
  dp : ∀ a, Q a → PyData.depth (P a) ≤ n
  eqv : ∀ a b, PyData.eqv (P a) (P b) = true ↔ a = b
theorem der_py {d : D} {p : PyData} {st : Sto} (h : D.py d = some p) : der st d = d := by
  cases d <;> first | rfl | (simp [D.py] at h)
section
variable {α β : Type} {T : α → D} {P : α → PyData} {n : Nat} {Q : α → Prop} {T2 : β → D} {P2 : β → PyData} {Q2 : β → Prop}
theorem EqT.pys (E : EqT T P n Q) : ∀ l : List α, D.pys (l.map T) = some (l.map P)
  | [] => rfl
  | a :: l => by simp [D.pys, E.py a, E.pys l]
theorem EqT.lays (E : EqT T P n Q) : ∀ l : List α, PyData.canLayAll0 (l.map P) = true
  | [] => rfl
  | a :: l => by simp [PyData.canLayAll0, E.lay a, E.lays l]
theorem EqT.dps (E : EqT T P n Q) : ∀ l : List α, (∀ a ∈ l, Q a) → PyData.depthAll (l.map P) ≤ n
  | [], _ => Nat.zero_le _
  | a :: l, h => by
    have h1 := E.dp a (h a List.mem_cons_self)
    have h2 := E.dps l fun b hb => h b (List.mem_cons_of_mem _ hb)
    simp only [List.map_cons, PyData.depthAll]
    omega
theorem EqT.eqvs (E : EqT T P n Q) : ∀ l m : List α, PyData.eqvAll (l.map P) (m.map P) = true ↔ l = m
  | [], [] => by simp [PyData.eqvAll]
  | [], _ :: _ => by simp [PyData.eqvAll]
  | _ :: _, [] => by simp [PyData.eqvAll]
  | a :: l, b :: m => by simp [PyData.eqvAll, E.eqv a b, E.eqvs l m]
theorem EqT.tup (E : EqT T P n Q) : EqT (fun l : List α => D.tup (l.map T)) (fun l => PyData.tuple (l.map P)) (n + 1) (fun l => ∀ a ∈ l, Q a) where
  py l := by simp [D.py, E.pys l]
  lay l := by simp [PyData.canLay0, E.lays l]
  dp l h := by have := E.dps l h; simp only [PyData.depth]; omega
  eqv l m := by simp [PyData.eqv, E.eqvs l m]
theorem EqT.lst (E : EqT T P n Q) : EqT (fun l : List α => D.lst (l.map T)) (fun l => PyData.list (l.map P)) (n + 1) (fun l => ∀ a ∈ l, Q a) where
  py l := by simp [D.py, E.pys l]
  lay l := by simp [PyData.canLay0, E.lays l]
  dp l h := by have := E.dps l h; simp only [PyData.depth]; omega
  eqv l m := by simp [PyData.eqv, E.eqvs l m]
theorem EqT.pair (E : EqT T P n Q) (E2 : EqT T2 P2 n Q2) : EqT (fun p : α × β => D.tup [T p.1, T2 p.2]) (fun p => PyData.tuple [P p.1, P2 p.2]) (n + 1) (fun p => Q p.1 ∧ Q2 p.2) where
  py p := by simp [D.py, D.pys, E.py p.1, E2.py p.2]
  lay p := by simp [PyData.canLay0, PyData.canLayAll0, E.lay p.1, E2.lay p.2]
  dp p h := by have := E.dp _ h.1; have := E2.dp _ h.2; simp only [PyData.depth, PyData.depthAll]; omega
  eqv p q := by
    simp only [PyData.eqv, PyData.eqvAll, Bool.and_true, Bool.and_eq_true, E.eqv, E2.eqv]
    exact ⟨fun h => Prod.ext h.1 h.2, fun h => by rw [h]; exact ⟨rfl, rfl⟩⟩
theorem EqT.mono {n' : Nat} {Q' : α → Prop} (E : EqT T P n Q) (h : n ≤ n') (hq : ∀ a, Q' a → Q a) : EqT T P n' Q' := ⟨E.py, E.lay, fun a q => Nat.le_trans (E.dp a (hq a q)) h, E.eqv⟩
theorem EqT.eq [DecidableEq α] (E : EqT T P n Q) (hn : n ≤ 64) {a b : α} (ha : Q a) (hb : Q b) {neg : Bool} {st : Sto} : oEqD neg (T a) (T b) st = .ok (.bl (if neg then !decide (a = b) else decide (a = b))) st := by
  have e : PyData.eqv (P a) (P b) = decide (a = b) := by
    rw [Bool.eq_iff_iff, E.eqv, decide_eq_true_iff]
  have s1 : SeqAt.shaped (P a) = true := by simp [SeqAt.shaped, E.lay a]; exact Nat.le_trans (E.dp a ha) hn
  have s2 : SeqAt.shaped (P b) = true := by simp [SeqAt.shaped, E.lay b]; exact Nat.le_trans (E.dp b hb) hn
  unfold oEqD
  rw [der_py (E.py a), der_py (E.py b), E.py a, E.py b]
  simp only [s1, s2, Bool.and_self, if_true, e]
theorem EqT.any (E : EqT T P n Q) [DecidableEq α] (a : α) : ∀ l : List α, ((l.map P).any fun z => PyData.eqv z (P a)) = decide (a ∈ l)
  | [] => by simp
  | b :: l => by
    rw [List.map_cons, List.any_cons, E.any a l]
    have : PyData.eqv (P b) (P a) = decide (b = a) := by rw [Bool.eq_iff_iff, E.eqv, decide_eq_true_iff]
    rw [this, Bool.eq_iff_iff]
    simp only [Bool.or_eq_true, decide_eq_true_eq, List.mem_cons]
    exact ⟨fun h => h.imp Eq.symm id, fun h => h.imp Eq.symm id⟩
theorem EqT.inT [DecidableEq α] (E : EqT T P n Q) (hn : n ≤ 64) {a : α} (ha : Q a) {l : List α} {neg : Bool} {st : Sto} : oInD neg (T a) (.tup (l.map T)) st = .ok (.bl (if neg then !decide (a ∈ l) else decide (a ∈ l))) st := by
  have s1 : SeqAt.shaped (P a) = true := by simp [SeqAt.shaped, E.lay a]; exact Nat.le_trans (E.dp a ha) hn
  have e2 : D.py (.tup (l.map T)) = some (.tuple (l.map P)) := E.tup.py l
  unfold oInD
  rw [der_py (E.py a), E.py a, der_py e2, e2]
  simp only [s1, E.lays l, Bool.and_self, if_true, E.any]
end
theorem natI {i j : Nat} : ((i : Int) = (j : Int)) ↔ i = j := by omega
def tP : Tm → PyData
  | .c i => .int i
  | .f1 k a => .tuple [.int k, tP a]
  | .f2 k a b => .tuple [.int k, tP a, tP b]
theorem tP_eqv : ∀ a b : Tm, PyData.eqv (tP a) (tP b) = true ↔ a = b
  | .c i, .c j => by simp [tP, PyData.eqv, natI]
  | .c i, .f1 k a => by simp [tP, PyData.eqv]
  | .c i, .f2 k a b => by simp [tP, PyData.eqv]
  | .f1 k a, .c j => by simp [tP, PyData.eqv]
  | .f1 k a, .f1 l b => by simp [tP, PyData.eqv, PyData.eqvAll, tP_eqv a b, natI]
  | .f1 k a, .f2 l b c => by simp [tP, PyData.eqv, PyData.eqvAll]
  | .f2 k a b, .c j => by simp [tP, PyData.eqv]
  | .f2 k a b, .f1 l c => by simp [tP, PyData.eqv, PyData.eqvAll]
  | .f2 k a b, .f2 l c d => by simp [tP, PyData.eqv, PyData.eqvAll, tP_eqv a c, tP_eqv b d, natI]
theorem eqTm : EqT tD tP 40 (fun t => dep t ≤ 41) where
  py t := by
    induction t with
    | c i => rfl
    | f1 k a ih => simp [tD, tP, D.py, D.pys, ih]
    | f2 k a b ih1 ih2 => simp [tD, tP, D.py, D.pys, ih1, ih2]
  lay t := by
    induction t with
    | c i => rfl
    | f1 k a ih => simp [tP, PyData.canLay0, PyData.canLayAll0, ih]
    | f2 k a b ih1 ih2 => simp [tP, PyData.canLay0, PyData.canLayAll0, ih1, ih2]
  dp t h := by
    have : ∀ t : Tm, PyData.depth (tP t) + 1 ≤ dep t := fun t => by
      induction t with
      | c i => simp [tP, PyData.depth, dep]
      | f1 k a ih => simp only [tP, PyData.depth, PyData.depthAll, dep]; omega
      | f2 k a b ih1 ih2 => simp only [tP, PyData.depth, PyData.depthAll, dep]; omega
    have := this t
    omega
  eqv := tP_eqv
theorem eqNat : EqT (fun i : Nat => D.int (i : Int)) (fun i => .int (i : Int)) 0 (fun _ => True) where
  py _ := rfl
  lay _ := rfl
  dp _ _ := Nat.le_refl _
  eqv a b := by simp [PyData.eqv, natI]
theorem eqInt : EqT (fun i : Int => D.int i) (fun i => .int i) 0 (fun _ => True) where
  py _ := rfl
  lay _ := rfl
  dp _ _ := Nat.le_refl _
  eqv a b := by simp [PyData.eqv]
theorem eqBool : EqT (fun i : Bool => D.bl i) (fun i => .bool i) 0 (fun _ => True) where
  py _ := rfl
  lay _ := rfl
  dp _ _ := Nat.le_refl _
  eqv a b := by simp [PyData.eqv]
theorem eqWh : EqT wD (fun w => .tuple [.int w.1, tP w.2]) 41 (fun w => dep w.2 ≤ 41) :=
  (EqT.pair (eqNat.mono (Nat.zero_le 40) (fun _ h => h)) eqTm).mono (Nat.le_refl _) fun _ h => ⟨trivial, h⟩
theorem eqWhs : EqT (fun l : List Wh => D.lst (l.map wD)) (fun l => .list (l.map fun w => .tuple [.int w.1, tP w.2])) 42 (fun l => ∀ w ∈ l, dep w.2 ≤ 41) := eqWh.lst
theorem pure_wD (w : Wh) : D.pure (wD w) = true := by simp [wD, D.pure, D.pures, pure_tD]
theorem pure_ws (p : List Wh) : D.pure (.tup (p.map wD)) = true := pures_map pure_wD p
/-! ### the wishes, at last -/
theorem dep_le_dmax {h : List Tm} {n : Nat} (hd : dmax h ≤ n) {i : Nat} : dep (h.getD i (.c 0)) ≤ n := Nat.le_trans getD_dep hd
abbrev wC : ZS := (sSeq (sAsg (zLc false (zRng1 (zCons (zBin (qOp oIx) (zVar 1) (zC (.int 0))) zNil)) (gN 5) (zBin (qOp oGtI) (zCallB b_l_taken (zCons (zVar 0) (zCons (zC (.int 3)) zNil))) (zC (.int 0))) (zTup (zCons (zVar 5) (zCons (zBin (qOp oIx) (zVar 4) (zVar 5)) zNil))) [5]) (gN 2))
      (sRet (zIf (zBin (qOp (oEqD true)) (zVar 2) (zLst false zNil)) (zApp (qOpN oTuple) (zCons (zVar 2) zNil)) (zTup (zCons (zTup (zCons (zC (.int 0)) (zCons (zBin (qOp oIx) (zVar 4) (zC (.int 0))) zNil))) zNil)))))
theorem row_it {m : Mc} {vars : Vars} {st : Sto} {k : Nat} (hv : vars[k]? = some (some (mD m))) (h3 : m.cells ≤ 3) : zRng1 (zCons (zBin (qOp oIx) (zVar k) (zC (.int 0))) zNil) vars st = .ok (rng 0 m.cells) st := by
  have e1 : zCons (zBin (qOp oIx) (zVar k) (zC (.int 0))) zNil vars st = .ok [.int (m.cells : Int)] st := by
    simp only [zCons_s, zBin_s, zVar_s, hv, bind_ok, zC_s, qOp_s, oIx0, quiet_ok, bindL_ok, zNil_s, lbindL_ok]
  exact rng1_of e1 (rngs_cells (by omega))
theorem whOk_of {m : Mc} {h : List Tm} {cs : List Nat} (H : HOkk m h) (hd : dmax h ≤ 8) (hne : cs ≠ []) (hp : cs.Pairwise (· < ·)) (hc : ∀ c ∈ cs, c < m.cells) : WhOk m (cs.map fun c => (c, h.getD c (.c 0))) where
  ne := by simpa using hne
  up := by
    rw [List.pairwise_map]
    exact hp
  at_ w hw := by
    obtain ⟨c, hc', rfl⟩ := List.mem_map.mp hw
    exact hc c hc'
  ok w hw := by
    obtain ⟨c, hc', rfl⟩ := List.mem_map.mp hw
    exact getD_ok H (hc c hc')
  dp w hw := by
    obtain ⟨c, hc', rfl⟩ := List.mem_map.mp hw
    exact dep_le_dmax hd
theorem pw_len : ∀ {cs : List Nat} {lo n : Nat}, cs.Pairwise (· < ·) → (∀ c ∈ cs, lo ≤ c ∧ c < lo + n) → cs.length ≤ n
  | [], _, _, _, _ => Nat.zero_le _
  | c :: cs, lo, n, hp, hc => by
    have h1 := hc c List.mem_cons_self
    obtain ⟨p1, p2⟩ := List.pairwise_cons.mp hp
    have ih := pw_len (cs := cs) (lo := c + 1) (n := lo + n - (c + 1)) p2 fun d hd => by
      have := p1 d hd
      have := hc d (List.mem_cons_of_mem _ hd)
      omega
    simp only [List.length_cons]
    omega
end Nk05

set_option Elab.async false
set_option linter.all false
set_option maxRecDepth 100000
set_option maxHeartbeats 2000000
namespace Nk05
open PySem PySem.Spec PyProof.Rows L2 Zl
theorem wC_pick {m : Mc} {h : List Tm} {ns : List Int} {x : Option D} (hl : ns.length ≤ 63) (H : HOkk m h) (c : Nat) (st : Sto) (hc : c < m.cells) (R : RowI ns st) : ∃ v1, gN 5 (.int (c : Int)) [some (.loc 0), some (mD m), none, x, some (hD h), none] = some v1 ∧ ∃ b st', zBin (qOp oGtI) (zCallB b_l_taken (zCons (zVar 0) (zCons (zC (.int 3)) zNil))) (zC (.int 0)) v1 st = .ok (.bl b) st' ∧ RowI ns st' ∧ zTup (zCons (zVar 5) (zCons (zBin (qOp oIx) (zVar 4) (zVar 5)) zNil)) v1 st' = .ok (wD (c, h.getD c (.c 0))) st' := by
  have hz := sizeLine_val
  have k2 : 2 ≤ sizeLine := by omega
  obtain ⟨i, s, b, e, g⟩ := R
  subst e
  obtain ⟨v, i1, s1, b1, e1, v0, v1, g1⟩ := taken_ok (ns := ns) (i := i) (s := s) (b := b) (many := 3) hl (by omega) (by omega) g
  refine ⟨[some (.loc 0), some (mD m), none, x, some (hD h), some (.int (c : Int))], rfl, decide (0 < v), row ns i1 s1 b1, ?_, ⟨i1, s1, b1, rfl, g1⟩, ?_⟩
  · simp only [zBin_s, zCallB_s, zCons_s, zVar_s, List.getElem?_cons_zero, bindL_ok, zC_s, zNil_s, lbindL_ok, lbind_ok, e1, bind_ok, qOp_s, oGtI_s, quiet_ok]
  · have gh := getH (h := h) (i := c) (st := row ns i1 s1 b1) (H.len ▸ hc)
    simp only [zTup_s, zCons_s, zVar_s, List.getElem?_cons_zero, List.getElem?_cons_succ, bindL_ok, zBin_s, bind_ok, qOp_s, gh, quiet_ok, zNil_s, lbindL_ok, lbind_ok, List.length_cons, List.length_nil, Nat.zero_add, Nat.reduceAdd, if_pos k2, wD]
theorem wC_lc {m : Mc} {h : List Tm} {ns : List Int} {i s b : Int} {x : Option D} (hl : ns.length ≤ 63) (hi : 0 ≤ i) (h3 : m.cells ≤ 3) (H : HOkk m h) :
    ∃ (cs : List Nat) (i' s' b' : Int), zLc false (zRng1 (zCons (zBin (qOp oIx) (zVar 1) (zC (.int 0))) zNil)) (gN 5) (zBin (qOp oGtI) (zCallB b_l_taken (zCons (zVar 0) (zCons (zC (.int 3)) zNil))) (zC (.int 0))) (zTup (zCons (zVar 5) (zCons (zBin (qOp oIx) (zVar 4) (zVar 5)) zNil))) [5] [some (.loc 0), some (mD m), none, x, some (hD h), none] (row ns i s b) = .ok (.lst (cs.map fun c => wD (c, h.getD c (.c 0)))) (row ns i' s' b') ∧ 0 ≤ i' ∧ cs.Pairwise (· < ·) ∧ ∀ c ∈ cs, c < m.cells := by
  have hz := sizeLine_val
  obtain ⟨cs, st', e2, ⟨i2, s2, b2, rfl, g2⟩, hp, hc⟩ := lc_some (F := fun c => wD (c, h.getD c (.c 0))) (hi := m.cells) (fun c st hc R => wC_pick (m := m) (x := x) hl H c st hc R) m.cells 0 (row ns i s b) ⟨i, s, b, rfl, hi⟩ (by omega)
  have e3 : ((0 : Nat) : Int) = 0 := rfl
  rw [e3] at e2
  have hlen : (cs.map fun c => wD (c, h.getD c (.c 0))).length ≤ sizeLine := by
    have := pw_len hp hc
    rw [List.length_map]
    omega
  exact ⟨cs, i2, s2, b2, zLc_ok (own := [5]) (row_it (m := m) (k := 1) rfl h3) e2 hlen, g2, hp, fun c h => by have := hc c h; omega⟩
theorem wC_ne {m : Mc} {h : List Tm} {cs : List Nat} {st : Sto} (hd : dmax h ≤ 6) : oEqD true (.lst (cs.map fun c => wD (c, h.getD c (.c 0)))) (.lst []) st = .ok (.bl (!decide (cs = []))) st := by
  have e0 : cs.map (fun c => wD (c, h.getD c (.c 0))) = (cs.map fun c => ((c, h.getD c (.c 0)) : Wh)).map wD := by rw [List.map_map]; rfl
  rw [e0]
  have q := eqWhs.eq (a := cs.map fun c => ((c, h.getD c (.c 0)) : Wh)) (b := []) (by decide) (neg := true) (st := st) (fun w hw => by
    obtain ⟨c, hc', rfl⟩ := List.mem_map.mp hw
    exact Nat.le_trans (dep_le_dmax hd) (by decide)) (fun w hw => by cases hw)
  refine Eq.trans q ?_
  simp
abbrev wT : ZS := (sRet (zIf (zBin (qOp (oEqD true)) (zVar 2) (zLst false zNil)) (zApp (qOpN oTuple) (zCons (zVar 2) zNil)) (zTup (zCons (zTup (zCons (zC (.int 0)) (zCons (zBin (qOp oIx) (zVar 4) (zC (.int 0))) zNil))) zNil))))
theorem wT_nil {m : Mc} {h : List Tm} {x : Option D} {st : Sto} (hd : dmax h ≤ 6) (h1 : 1 ≤ h.length) : wT [some (.loc 0), some (mD m), some (.lst []), x, some (hD h), none] st = .ret (.tup [wD (0, h.getD 0 (.c 0))]) st := by
  have hz := sizeLine_val
  have k1 : 1 ≤ sizeLine := by omega
  have k2 : 2 ≤ sizeLine := by omega
  have k0 : 0 ≤ sizeLine := by omega
  have q : oEqD true (.lst []) (.lst []) st = .ok (.bl false) st := wC_ne (m := m) (h := h) (cs := []) hd
  have q0 : oIx (hD h) (.int 0) st = .ok (tD (h.getD 0 (.c 0))) st := getH (i := 0) (by omega)
  simp only [wT, sRet_s, zIf_s, zBin_s, zVar_s, List.getElem?_cons_zero, List.getElem?_cons_succ, bind_ok, zLst_s, zNil_s, lbind_ok, List.length_nil, if_pos k0, newD_f, qOp_s, q, quiet_ok, tst_ok, Bool.false_eq_true, if_false, zTup_s, zCons_s, zC_s, bindL_ok, q0, lbindL_ok, List.length_cons, Nat.zero_add, Nat.reduceAdd, if_pos k1, if_pos k2, bindS_ok, wD]
  rfl
theorem wT_cons {m : Mc} {h : List Tm} {x : Option D} {st : Sto} {cs : List Nat} (hd : dmax h ≤ 6) (hne : cs ≠ []) : wT [some (.loc 0), some (mD m), some (.lst (cs.map fun c => wD (c, h.getD c (.c 0)))), x, some (hD h), none] st = .ret (.tup (cs.map fun c => wD (c, h.getD c (.c 0)))) st := by
  have k0 : 0 ≤ sizeLine := Nat.zero_le _
  have q : oEqD true (.lst (cs.map fun c => wD (c, h.getD c (.c 0)))) (.lst []) st = .ok (.bl true) st := by
    rw [wC_ne (m := m) hd]
    simp [hne]
  simp only [wT, sRet_s, zIf_s, zBin_s, zVar_s, List.getElem?_cons_zero, List.getElem?_cons_succ, bind_ok, zLst_s, zNil_s, lbind_ok, List.length_nil, if_pos k0, newD_f, qOp_s, q, quiet_ok, tst_ok, if_true, zApp_s, zCons_s, bindL_ok, lbindL_ok, qOpN_s, oTuple_lst, bindS_ok]
theorem wC_ok {m : Mc} {h : List Tm} {ns : List Int} {i s b : Int} {x : Option D} (hl : ns.length ≤ 63) (hi : 0 ≤ i) (h3 : 1 ≤ m.cells ∧ m.cells ≤ 3) (H : HOkk m h) (hd : dmax h ≤ 6) :
    ∃ (ws : List Wh) (i' s' b' : Int), wC [some (.loc 0), some (mD m), none, x, some (hD h), none] (row ns i s b) = .ret (.tup (ws.map wD)) (row ns i' s' b') ∧ WhOk m ws ∧ 0 ≤ i' := by
  obtain ⟨cs, i2, s2, b2, lc, g2, hp, hc⟩ := wC_lc (x := x) (s := s) (b := b) hl hi h3.2 H
  have a1 : wC [some (.loc 0), some (mD m), none, x, some (hD h), none] (row ns i s b) = wT [some (.loc 0), some (mD m), some (.lst (cs.map fun c => wD (c, h.getD c (.c 0)))), x, some (hD h), none] (row ns i2 s2 b2) := by
    show (sSeq (sAsg _ _) wT) _ _ = _
    rw [sSeq_s, sAsg_s, lc]
    rfl
  by_cases hne : cs = []
  · subst hne
    refine ⟨[(0, h.getD 0 (.c 0))], i2, s2, b2, ?_, whOk_of (cs := [0]) H (by omega) (by simp) (by simp) (by simp; omega), g2⟩
    rw [a1]
    exact wT_nil hd (by rw [H.len]; exact h3.1)
  · refine ⟨cs.map fun c => (c, h.getD c (.c 0)), i2, s2, b2, ?_, whOk_of H (by omega) hne hp hc, g2⟩
    rw [a1, wT_cons hd hne, List.map_map]
    rfl
theorem wAB_ok {m : Mc} {ns : List Int} {i s b : Int} (hl : ns.length ≤ 63) (hi : 0 ≤ i) (hm : m ∈ machines) :
    ∃ (h : List Tm) (i' s' b' : Int) (x : Option D), (sIf (zBin (qOp oGtI) (zCallB b_l_taken (zCons (zVar 0) (zCons (zC (.int 3)) zNil))) (zC (.int 0))) wA wB) [some (.loc 0), some (mD m), none, none, none, none] (row ns i s b) = .nx [some (.loc 0), some (mD m), none, x, some (hD h), none] (row ns i' s' b') ∧ HOkk m h ∧ dmax h ≤ 6 ∧ 0 ≤ i' := by
  obtain ⟨v, i1, s1, b1, e1, v0, v1, g1⟩ := taken_ok (ns := ns) (i := i) (s := s) (b := b) (many := 3) hl (by omega) (by omega) hi
  have t1 : (zBin (qOp oGtI) (zCallB b_l_taken (zCons (zVar 0) (zCons (zC (.int 3)) zNil))) (zC (.int 0))) [some (.loc 0), some (mD m), none, none, none, none] (row ns i s b) = .ok (.bl (decide (0 < v))) (row ns i1 s1 b1) := by
    simp only [zBin_s, zCallB_s, zCons_s, zVar_s, List.getElem?_cons_zero, bindL_ok, zC_s, zNil_s, lbindL_ok, lbind_ok, e1, bind_ok, qOp_s, oGtI_s, quiet_ok]
  rw [sIf_s, t1, tstS_ok]
  by_cases hv : 0 < v
  · obtain ⟨h, i2, s2, b2, x, e2, r⟩ := wA_ok (m := m) (ns := ns) (i := i1) (s := s1) (b := b1) hl g1 hm
    refine ⟨h, i2, s2, b2, x, ?_, r⟩
    rw [if_pos (decide_eq_true hv)]
    exact e2
  · obtain ⟨h, i2, s2, b2, x, e2, r⟩ := wB_ok (m := m) (ns := ns) (i := i1) (s := s1) (b := b1) hl g1 hm
    refine ⟨h, i2, s2, b2, x, ?_, r⟩
    rw [if_neg (by simp [hv])]
    exact e2
theorem wishes_eq : m_l_wishes = sSeq (sIf (zBin (qOp oGtI) (zCallB b_l_taken (zCons (zVar 0) (zCons (zC (.int 3)) zNil))) (zC (.int 0))) wA wB) wC := rfl
theorem wishes_ok {m : Mc} {ns : List Int} {i s b : Int} (hl : ns.length ≤ 63) (hi : 0 ≤ i) (hm : m ∈ machines) :
    ∃ (ws : List Wh) (i' s' b' : Int), b_l_wishes [.loc 0, mD m] (row ns i s b) = .ok (.tup (ws.map wD)) (row ns i' s' b') ∧ WhOk m ws ∧ 0 ≤ i' := by
  have e : b_l_wishes [.loc 0, mD m] (row ns i s b) = toB (m_l_wishes [some (.loc 0), some (mD m), none, none, none, none] (row ns i s b)) := rfl
  obtain ⟨h, i2, s2, b2, x, e2, H, hd, g2⟩ := wAB_ok (s := s) (b := b) hl hi hm
  have fine := List.all_eq_true.mp lines_fine m hm
  simp only [Bool.and_eq_true, decide_eq_true_eq, List.all_eq_true] at fine
  obtain ⟨ws, i3, s3, b3, e3, hw, g3⟩ := wC_ok (x := x) hl g2 ⟨fine.1.2, fine.2⟩ H hd (s := s2) (b := b2)
  refine ⟨ws, i3, s3, b3, ?_, hw, g3⟩
  rw [e, wishes_eq, sSeq_s, e2, sbind_nx, e3]
  rfl
end Nk05

set_option Elab.async false
set_option linter.all false
set_option maxRecDepth 100000
set_option maxHeartbeats 2000000
namespace Nk05
open PySem PySem.Spec PyProof.Rows L2 Zl
/-! ### all losses; what is needed -/
def subs : Nat → List (List Nat)
  | 0 => [[]]
  | n + 1 => subs n ++ (subs n).map (· ++ [n])
theorem loss_all : (List.range 8).all (fun n => okD (a_l_every_loss [.int (n : Int), .int ((n : Int) + 1)]) (.lst ((subs n).map sD))) = true := by decide +kernel
theorem loss_ok {n : Nat} (h : n ≤ 7) : a_l_every_loss [.int (n : Int), .int ((n : Int) + 1)] = .ok (.lst ((subs n).map sD)) := okD_eq (List.all_eq_true.mp loss_all n (List.mem_range.mpr (by omega)))
theorem nm_all : machines.all (fun m => okD (a_need_machine [mD m]) .non) = true := by decide +kernel
theorem need_machine_ok {m : Mc} (h : m ∈ machines) : a_need_machine [mD m] = .ok .non := okD_eq (List.all_eq_true.mp nm_all m h)
theorem il_all : machines.all (fun m => (lines m).all fun l => okD (a_is_line [mD m, lD l]) (.bl true)) = true := by decide +kernel
theorem is_line_ok {m : Mc} {l : Ln} (h : m ∈ machines) (hl : l ∈ lines m) : a_is_line [mD m, lD l] = .ok (.bl true) := okD_eq (List.all_eq_true.mp (List.all_eq_true.mp il_all m h) l hl)
theorem need_program_ok {m : Mc} {p : List Ln} (hm : m ∈ machines) (hp : ∀ l ∈ p, l ∈ lines m) (hl : p.length ≤ 60) : a_need_program [mD m, .tup (p.map lD)] = .ok .non := by
  have e : a_need_program [mD m, .tup (p.map lD)] = toA (m_need_program [some (mD m), some (.tup (p.map lD)), none, none] []) := rfl
  have hz := sizeLine_val
  rw [e]
  unfold m_need_program
  have fi := for_enum (T := lD) (g := gT (gConsZ (gN 2) (gConsZ (gN 3) gNilZ))) (F := fun (s : Unit) _ _ => s) (b := sIf (zNot (zUn oTru (zCallA a_is_line (zCons (zVar 0) (zCons (zVar 3) zNil))))) sStuck sNext)
      (I := fun n r s v st => st = [] ∧ (∀ l ∈ r, l ∈ lines m) ∧ ∃ x y, v = [some (mD m), some (.tup (p.map lD)), x, y])
      (fun s n a r vars st hh => ?_) p 0 () [some (mD m), some (.tup (p.map lD)), none, none] [] ⟨rfl, hp, _, _, rfl⟩
  · obtain ⟨v2, st2, e2, rfl, _, x, y, rfl⟩ := fi
    have lp : ∀ b, sFor (zEnum (zVar 1)) (gT (gConsZ (gN 2) (gConsZ (gN 3) gNilZ))) b [some (mD m), some (.tup (p.map lD)), none, none] [] = zForL (gT (gConsZ (gN 2) (gConsZ (gN 3) gNilZ))) b (pairs 0 (p.map lD)) [some (mD m), some (.tup (p.map lD)), none, none] [] := fun b => rfl
    have ol : oLen [.tup (p.map lD)] ([] : Sto) = .ok (.int p.length) [] := by rw [oLen_tup (by simp; omega), List.length_map]
    have nl : ¬ ((60 : Int) < (p.length : Int)) := by omega
    simp only [sSeq_s, sIf_s, zOr_s, zNot_s, zUn_s, zVar_s, List.getElem?_cons_zero, List.getElem?_cons_succ, bind_ok, oIsi, der_tup_s, pTup, tst_ok, Bool.not_true, Bool.false_eq_true, if_false, zBin_s, zApp_s, zCons_s, bindL_ok, zNil_s, lbindL_ok, lbind_ok, qOpN_s, ol, quiet_ok, zC_s, qOp_s, oGtI_s, decide_eq_false nl, tstS_ok, sNext_s, sbind_nx, lp, e2, toA]
  · obtain ⟨rfl, b1, x, y, rfl⟩ := hh
    refine ⟨_, rfl, [some (mD m), some (.tup (p.map lD)), some (.int (n : Int)), some (lD a)], [], .inl ?_, rfl, fun l hl => b1 l (List.mem_cons_of_mem _ hl), _, _, rfl⟩
    have c : zCallA a_is_line (zCons (zVar 0) (zCons (zVar 3) zNil)) [some (mD m), some (.tup (p.map lD)), some (.int (n : Int)), some (lD a)] [] = .ok (.bl true) [] := callA_ok (ds := [mD m, lD a]) rfl (pures2 (mD_pure1 m) (pure_lD a)) (is_line_ok hm (b1 a List.mem_cons_self))
    simp only [List.set_cons_zero, List.set_cons_succ, sIf_s, zNot_s, zUn_s, c, bind_ok, oTru, der_bl, truD, tst_ok, Bool.not_true, tstS_ok, Bool.false_eq_true, if_false, sNext_s]
theorem is_number_ok {x lo hi : Int} : a_is_number [.int x, .int lo, .int hi] = .ok (.bl (decide (lo ≤ x) && decide (x ≤ hi))) := by
  show toA (m_is_number [some (.int x), some (.int lo), some (.int hi)] []) = _
  unfold m_is_number
  by_cases h : lo ≤ x <;> simp [zVar_s, oIsi, pInt, pBool, h, toA, D.pure]
theorem pureI {i : Int} : D.pure (.int i) = true := rfl
@[simp] theorem zAppd_s {dds : List D} {l : ZL} {vars : Vars} {st : Sto} : zAppd dds l vars st = (l vars st).bindL fun ds st => .ok (ds ++ dds) st := rfl
theorem oEqI {neg : Bool} {i j : Int} {st : Sto} : oEqD neg (.int i) (.int j) st = .ok (.bl (if neg then !decide (i = j) else decide (i = j))) st := eqInt.eq (by decide) trivial trivial
theorem oIx_at {ds : List D} {i : Nat} {d : D} {st : Sto} (h : ds[i]? = some d) : oIx (.tup ds) (.int (i : Int)) st = .ok d st := by
  unfold oIx
  simp only [der_tup_s, atI_nat, h]
theorem fns_at {fs : List Nat} {k r : Nat} {st : Sto} (h : fs[k]? = some r) : oIx (fnsD fs) (.int (k : Int)) st = .ok (.int (r : Int)) st := oIx_at (by rw [List.getElem?_map, h]; rfl)
theorem is_term_ok {m : Mc} (hf : m.fns.length ≤ 1000) : ∀ (t : Tm) (n : Nat) (d : Int), dep t ≤ n → (dep t : Int) ≤ d → Tm.ok m t = true → r_is_term n [mD m, tD t, .int d] = .ok (.bl true)
  | t, 0, _, h, _, _ => by have := dep_pos t; omega
  | .c i, n + 1, d, _, _, hk => by
    have e : r_is_term (n + 1) [mD m, tD (.c i), .int d] = toA (m_is_term (r_is_term n) [some (mD m), some (.int (i : Int)), some (.int d), none, none, none] []) := rfl
    simp [Tm.ok] at hk
    have c : zCallA a_is_number (zCons (zVar 1) (zCons (zC (.int 0)) (zCons (zBin (qOp oSubI) (zVar 3) (zC (.int 1))) zNil))) [some (mD m), some (.int (i : Int)), some (.int d), some (.int (m.cells : Int)), some (fnsD m.fns), none] [] = .ok (.bl true) [] := by
      refine callA_ok (ds := [.int (i : Int), .int 0, .int ((m.cells : Int) - 1)]) rfl rfl ?_
      rw [is_number_ok]
      have h1 : (0 : Int) ≤ (i : Int) := by omega
      have h2 : (i : Int) ≤ (m.cells : Int) - 1 := by omega
      simp [h1, h2]
    rw [e]
    unfold m_is_term
    simp only [sSeq_s, sAsg_s, zVar_s, List.getElem?_cons_zero, List.getElem?_cons_succ, bindS_ok, gT_s, gCons_s, gN_s, gNil_s, List.set_cons_zero, List.set_cons_succ, sbind_nx, sIf_s, zNot_s, zUn_s, bind_ok, oIsi, der_int, pTup, tst_ok, Bool.not_false, tstS_ok, if_true, sRet_s, c, sbind_ret, toA, frz_bl, D.pure]
  | .f1 k a, n + 1, d, hn, hd, hk => by
    have e : r_is_term (n + 1) [mD m, tD (.f1 k a), .int d] = toA (m_is_term (r_is_term n) [some (mD m), some (.tup [.int (k : Int), tD a]), some (.int d), none, none, none] []) := rfl
    simp [Tm.ok] at hk
    obtain ⟨hk1, hk2⟩ := hk
    have hz := sizeLine_val
    have kl : k < m.fns.length := (List.getElem?_eq_some_iff.mp hk1).1
    simp only [dep] at hn hd
    have dp := dep_pos a
    have ih := is_term_ok hf a n (d - 1) (by omega) (by omega) hk2
    have ol : ∀ st : Sto, oLen [fnsD m.fns] st = .ok (.int (m.fns.length : Int)) st := fun st => by rw [oLen_tup (by simp; omega), List.length_map]
    have ol2 : ∀ st : Sto, oLen [.tup [.int (k : Int), tD a]] st = .ok (.int 2) st := fun st => by rw [oLen_tup (by simp; omega)]; rfl
    have c : zCallA a_is_number (zCons (zBin (qOp oIx) (zVar 1) (zC (.int 0))) (zCons (zC (.int 0)) (zCons (zBin (qOp oSubI) (zApp (qOpN oLen) (zCons (zVar 4) zNil)) (zC (.int 1))) zNil))) [some (mD m), some (.tup [.int (k : Int), tD a]), some (.int d), some (.int (m.cells : Int)), some (fnsD m.fns), none] [] = .ok (.bl true) [] := by
      refine callA_ok (ds := [.int (k : Int), .int 0, .int ((m.fns.length : Int) - 1)]) ?_ rfl ?_
      · simp only [zCons_s, zBin_s, zVar_s, List.getElem?_cons_zero, List.getElem?_cons_succ, bind_ok, zC_s, qOp_s, oIx0, quiet_ok, bindL_ok, zApp_s, zNil_s, lbindL_ok, lbind_ok, qOpN_s, ol, oSubI_s]
      · rw [is_number_ok]
        have h1 : (0 : Int) ≤ (k : Int) := by omega
        have h2 : (k : Int) ≤ (m.fns.length : Int) - 1 := by omega
        simp [h1, h2]
    have c2 : zCallA (r_is_term n) (zAppd [] (zCons (zVar 0) (zCons (zVar 5) (zCons (zBin (qOp oSubI) (zVar 2) (zC (.int 1))) zNil)))) [some (mD m), some (.tup [.int (k : Int), tD a]), some (.int d), some (.int (m.cells : Int)), some (fnsD m.fns), some (tD a)] [] = .ok (.bl true) [] := by
      refine callA_ok (ds := [mD m, tD a, .int (d - 1)]) ?_ (pures3 (mD_pure1 m) (pure_tD a) rfl) ih
      simp only [zAppd_s, zCons_s, zVar_s, List.getElem?_cons_zero, List.getElem?_cons_succ, bindL_ok, zBin_s, bind_ok, zC_s, qOp_s, oSubI_s, quiet_ok, zNil_s, lbindL_ok, List.append_nil]
    have nd : ¬ (d < 2) := by omega
    have cu : Zl.cutD [D.int (k : Int), tD a] (some 1) none = [tD a] := rfl
    have gx : zGen false (zIt (zSl false (zVar 1) (some (zC (.int 1))) none)) (gN 5) (zCallA (r_is_term n) (zAppd [] (zCons (zVar 0) (zCons (zVar 5) (zCons (zBin (qOp oSubI) (zVar 2) (zC (.int 1))) zNil))))) [5] [some (mD m), some (.tup [.int (k : Int), tD a]), some (.int d), some (.int (m.cells : Int)), some (fnsD m.fns), none] [] = .ok (.bl true) [] := by
      simp only [zGen, zIt_s, zSl_s, zVar_s, List.getElem?_cons_zero, List.getElem?_cons_succ, bind_ok, zPart_s, zPart_n, zC_s, oSl_tup, cu, frz_tup, asL_ok, items_tup, wipeD, List.set_cons_zero, List.set_cons_succ, zGenL, gN_s, c2, Bool.true_eq_false, if_false, Bool.not_false]
    rw [e]
    unfold m_is_term
    have ne : ∀ st : Sto, oEqD true (.int 2) (.int (1 + 1)) st = .ok (.bl false) st := fun st => oEqI
    have n1 : ((1 : Nat) : Int) = 1 := rfl
    simp only [sSeq_s, sAsg_s, zVar_s, List.getElem?_cons_zero, List.getElem?_cons_succ, bindS_ok, gT_s, gCons_s, gN_s, gNil_s, List.set_cons_zero, List.set_cons_succ, sbind_nx, sIf_s, zNot_s, zUn_s, bind_ok, oIsi, der_tup_s, pTup, tst_ok, Bool.not_true, tstS_ok, Bool.false_eq_true, if_false, sNext_s, zOr_s, zBin_s, zC_s, qOp_s, oLtI_s, quiet_ok, decide_eq_false nd, oTru, truD, List.isEmpty_cons, Bool.not_false, c, der_bl, zApp_s, zCons_s, bindL_ok, zNil_s, lbindL_ok, lbind_ok, qOpN_s, ol2, oIx0, fns_at hk1, n1, oAdd_s, ne, sRet_s, gx, toA, frz_bl, D.pure, if_true]
  | .f2 k a b, n + 1, d, hn, hd, hk => by
    have e : r_is_term (n + 1) [mD m, tD (.f2 k a b), .int d] = toA (m_is_term (r_is_term n) [some (mD m), some (.tup [.int (k : Int), tD a, tD b]), some (.int d), none, none, none] []) := rfl
    simp [Tm.ok] at hk
    obtain ⟨hk1, hk2, hk3⟩ := hk
    have hz := sizeLine_val
    have kl : k < m.fns.length := (List.getElem?_eq_some_iff.mp hk1).1
    simp only [dep] at hn hd
    have dp := dep_pos a
    have ih := is_term_ok hf a n (d - 1) (by omega) (by omega) hk2
    have ih2 := is_term_ok hf b n (d - 1) (by omega) (by omega) hk3
    have ol : ∀ st : Sto, oLen [fnsD m.fns] st = .ok (.int (m.fns.length : Int)) st := fun st => by rw [oLen_tup (by simp; omega), List.length_map]
    have ol2 : ∀ st : Sto, oLen [.tup [.int (k : Int), tD a, tD b]] st = .ok (.int 3) st := fun st => by rw [oLen_tup (by simp; omega)]; rfl
    have c : zCallA a_is_number (zCons (zBin (qOp oIx) (zVar 1) (zC (.int 0))) (zCons (zC (.int 0)) (zCons (zBin (qOp oSubI) (zApp (qOpN oLen) (zCons (zVar 4) zNil)) (zC (.int 1))) zNil))) [some (mD m), some (.tup [.int (k : Int), tD a, tD b]), some (.int d), some (.int (m.cells : Int)), some (fnsD m.fns), none] [] = .ok (.bl true) [] := by
      refine callA_ok (ds := [.int (k : Int), .int 0, .int ((m.fns.length : Int) - 1)]) ?_ rfl ?_
      · simp only [zCons_s, zBin_s, zVar_s, List.getElem?_cons_zero, List.getElem?_cons_succ, bind_ok, zC_s, qOp_s, oIx0, quiet_ok, bindL_ok, zApp_s, zNil_s, lbindL_ok, lbind_ok, qOpN_s, ol, oSubI_s]
      · rw [is_number_ok]
        have h1 : (0 : Int) ≤ (k : Int) := by omega
        have h2 : (k : Int) ≤ (m.fns.length : Int) - 1 := by omega
        simp [h1, h2]
    have c2 : ∀ t : Tm, r_is_term n [mD m, tD t, .int (d - 1)] = .ok (.bl true) → zCallA (r_is_term n) (zAppd [] (zCons (zVar 0) (zCons (zVar 5) (zCons (zBin (qOp oSubI) (zVar 2) (zC (.int 1))) zNil)))) [some (mD m), some (.tup [.int (k : Int), tD a, tD b]), some (.int d), some (.int (m.cells : Int)), some (fnsD m.fns), some (tD t)] [] = .ok (.bl true) [] := fun t ih => by
      refine callA_ok (ds := [mD m, tD t, .int (d - 1)]) ?_ (pures3 (mD_pure1 m) (pure_tD t) rfl) ih
      simp only [zAppd_s, zCons_s, zVar_s, List.getElem?_cons_zero, List.getElem?_cons_succ, bindL_ok, zBin_s, bind_ok, zC_s, qOp_s, oSubI_s, quiet_ok, zNil_s, lbindL_ok, List.append_nil]
    have nd : ¬ (d < 2) := by omega
    have cu : Zl.cutD [D.int (k : Int), tD a, tD b] (some 1) none = [tD a, tD b] := rfl
    have gx : zGen false (zIt (zSl false (zVar 1) (some (zC (.int 1))) none)) (gN 5) (zCallA (r_is_term n) (zAppd [] (zCons (zVar 0) (zCons (zVar 5) (zCons (zBin (qOp oSubI) (zVar 2) (zC (.int 1))) zNil))))) [5] [some (mD m), some (.tup [.int (k : Int), tD a, tD b]), some (.int d), some (.int (m.cells : Int)), some (fnsD m.fns), none] [] = .ok (.bl true) [] := by
      simp only [zGen, zIt_s, zSl_s, zVar_s, List.getElem?_cons_zero, List.getElem?_cons_succ, bind_ok, zPart_s, zPart_n, zC_s, oSl_tup, cu, frz_tup, asL_ok, items_tup, wipeD, List.set_cons_zero, List.set_cons_succ, zGenL, gN_s, c2 a ih, c2 b ih2, Bool.true_eq_false, if_false, Bool.not_false]
    rw [e]
    unfold m_is_term
    have ne : ∀ st : Sto, oEqD true (.int 3) (.int (1 + 2)) st = .ok (.bl false) st := fun st => oEqI
    have n2 : ((2 : Nat) : Int) = 2 := rfl
    simp only [sSeq_s, sAsg_s, zVar_s, List.getElem?_cons_zero, List.getElem?_cons_succ, bindS_ok, gT_s, gCons_s, gN_s, gNil_s, List.set_cons_zero, List.set_cons_succ, sbind_nx, sIf_s, zNot_s, zUn_s, bind_ok, oIsi, der_tup_s, pTup, tst_ok, Bool.not_true, tstS_ok, Bool.false_eq_true, if_false, sNext_s, zOr_s, zBin_s, zC_s, qOp_s, oLtI_s, quiet_ok, decide_eq_false nd, oTru, truD, List.isEmpty_cons, Bool.not_false, c, der_bl, zApp_s, zCons_s, bindL_ok, zNil_s, lbindL_ok, lbind_ok, qOpN_s, ol2, oIx0, fns_at hk1, n2, oAdd_s, ne, sRet_s, gx, toA, frz_bl, D.pure, if_true]
end Nk05

set_option Elab.async false
set_option linter.all false
set_option maxRecDepth 100000
set_option maxHeartbeats 2000000
namespace Nk05
open PySem PySem.Spec PyProof.Rows L2 Zl
theorem fns_len {m : Mc} (hm : m ∈ machines) : m.fns.length ≤ 1000 := by
  simp only [machines, List.mem_flatMap, List.mem_map, List.mem_cons, List.not_mem_nil, or_false] at hm
  obtain ⟨c, hc, f, hf, rfl⟩ := hm
  rcases hf with rfl | rfl | rfl | rfl | rfl | rfl <;> simp
theorem cells_le {m : Mc} (hm : m ∈ machines) : 1 ≤ m.cells ∧ m.cells ≤ 3 := by
  have fine := List.all_eq_true.mp lines_fine m hm
  simp only [Bool.and_eq_true, decide_eq_true_eq, List.all_eq_true] at fine
  exact ⟨fine.1.2, fine.2⟩
theorem is_wish_ok {m : Mc} {w : Wh} (hm : m ∈ machines) (h1 : w.1 < m.cells) (h2 : Tm.ok m w.2 = true) (h3 : dep w.2 ≤ 8) : a_is_wish [mD m, wD w] = .ok (.bl true) := by
  have e : a_is_wish [mD m, wD w] = toA (m_is_wish [some (mD m), some (wD w)] []) := rfl
  have hz := sizeLine_val
  have c : zCallA a_is_number (zCons (zBin (qOp oIx) (zVar 1) (zC (.int 0))) (zCons (zC (.int 0)) (zCons (zBin (qOp oSubI) (zBin (qOp oIx) (zVar 0) (zC (.int 0))) (zC (.int 1))) zNil))) [some (mD m), some (wD w)] [] = .ok (.bl true) [] := by
    refine callA_ok (ds := [.int (w.1 : Int), .int 0, .int ((m.cells : Int) - 1)]) ?_ rfl ?_
    · simp only [wD, zCons_s, zBin_s, zVar_s, List.getElem?_cons_zero, List.getElem?_cons_succ, bind_ok, zC_s, qOp_s, oIx0, quiet_ok, bindL_ok, zNil_s, lbindL_ok, oSubI_s]
    · rw [is_number_ok]
      have h1 : (0 : Int) ≤ (w.1 : Int) := by omega
      have h2 : (w.1 : Int) ≤ (m.cells : Int) - 1 := by omega
      simp [h1, h2]
  have c2 : zCallA a_is_term (zAppd [.int 8] (zCons (zVar 0) (zCons (zBin (qOp oIx) (zVar 1) (zC (.int 1))) zNil))) [some (mD m), some (wD w)] [] = .ok (.bl true) [] := by
    refine callA_ok (ds := [mD m, tD w.2, .int 8]) ?_ (pures3 (mD_pure1 m) (pure_tD _) rfl) (is_term_ok (fns_len hm) w.2 10 8 (by omega) (by omega) h2)
    simp only [wD, zAppd_s, zCons_s, zVar_s, List.getElem?_cons_zero, List.getElem?_cons_succ, bindL_ok, zBin_s, bind_ok, zC_s, qOp_s, oIx1, quiet_ok, zNil_s, lbindL_ok, List.cons_append, List.nil_append]
  have ol : ∀ st : Sto, oLen [wD w] st = .ok (.int 2) st := fun st => by unfold wD; rw [oLen_tup (by simp; omega)]; rfl
  have ne : ∀ st : Sto, oEqD true (.int 2) (.int 2) st = .ok (.bl false) st := fun st => oEqI
  have is : ∀ st : Sto, oIsi pTup (wD w) st = .ok (.bl true) st := fun st => rfl
  rw [e]
  unfold m_is_wish
  simp only [sSeq_s, sIf_s, zOr_s, zNot_s, zUn_s, zVar_s, List.getElem?_cons_zero, List.getElem?_cons_succ, bind_ok, is, tst_ok, Bool.not_true, Bool.false_eq_true, if_false, zBin_s, zApp_s, zCons_s, bindL_ok, zNil_s, lbindL_ok, lbind_ok, qOpN_s, ol, quiet_ok, zC_s, qOp_s, ne, c, oTru, der_bl, truD, tstS_ok, sNext_s, sbind_nx, sRet_s, c2, bindS_ok, toA, frz_bl, D.pure, if_true]
theorem need_wishes_ok {m : Mc} {ws : List Wh} (hm : m ∈ machines) (W : WhOk m ws) : a_need_wishes [mD m, .tup (ws.map wD)] = .ok .non := by
  have e : a_need_wishes [mD m, .tup (ws.map wD)] = toA (m_need_wishes [some (mD m), some (.tup (ws.map wD)), none, none] []) := rfl
  have hz := sizeLine_val
  rw [e]
  unfold m_need_wishes
  have fi := for_enum (T := wD) (g := gT (gConsZ (gN 2) (gConsZ (gN 3) gNilZ))) (F := fun (s : Unit) _ _ => s) (b := sIf (zOr (zNot (zUn oTru (zCallA a_is_wish (zCons (zVar 0) (zCons (zVar 3) zNil))))) (zAnd (zBin (qOp oGtI) (zVar 2) (zC (.int 0))) (zBin (qOp oGeI) (zBin (qOp oIx) (zBin (qOp oIx) (zVar 1) (zBin (qOp oSubI) (zVar 2) (zC (.int 1)))) (zC (.int 0))) (zBin (qOp oIx) (zVar 3) (zC (.int 0)))))) sStuck sNext)
      (I := fun n r s v st => st = [] ∧ (∃ pre, ws = pre ++ r ∧ pre.length = n) ∧ ∃ x y, v = [some (mD m), some (.tup (ws.map wD)), x, y])
      (fun s n a r vars st hh => ?_) ws 0 () [some (mD m), some (.tup (ws.map wD)), none, none] [] ⟨rfl, ⟨[], rfl, rfl⟩, _, _, rfl⟩
  · obtain ⟨v2, st2, e2, rfl, _, x, y, rfl⟩ := fi
    have lp : ∀ b, sFor (zEnum (zVar 1)) (gT (gConsZ (gN 2) (gConsZ (gN 3) gNilZ))) b [some (mD m), some (.tup (ws.map wD)), none, none] [] = zForL (gT (gConsZ (gN 2) (gConsZ (gN 3) gNilZ))) b (pairs 0 (ws.map wD)) [some (mD m), some (.tup (ws.map wD)), none, none] [] := fun b => rfl
    have tr : ∀ st : Sto, oTru (.tup (ws.map wD)) st = .ok (.bl true) st := fun st => by
      cases ws with
      | nil => exact absurd rfl W.ne
      | cons a l => rfl
    simp only [sSeq_s, sIf_s, zOr_s, zNot_s, zUn_s, zVar_s, List.getElem?_cons_zero, List.getElem?_cons_succ, bind_ok, oIsi, der_tup_s, pTup, tst_ok, Bool.not_true, Bool.false_eq_true, if_false, tr, tstS_ok, sNext_s, sbind_nx, lp, e2, toA]
  · obtain ⟨rfl, ⟨pre, b1, b2⟩, x, y, rfl⟩ := hh
    have ha : a ∈ ws := by rw [b1]; simp
    refine ⟨_, rfl, [some (mD m), some (.tup (ws.map wD)), some (.int (n : Int)), some (wD a)], [], .inl ?_, rfl, ⟨pre ++ [a], by rw [b1]; simp, by simp [b2]⟩, _, _, rfl⟩
    have c : zCallA a_is_wish (zCons (zVar 0) (zCons (zVar 3) zNil)) [some (mD m), some (.tup (ws.map wD)), some (.int (n : Int)), some (wD a)] [] = .ok (.bl true) [] := callA_ok (ds := [mD m, wD a]) rfl (pures2 (mD_pure1 m) (pure_wD a)) (is_wish_ok hm (W.at_ a ha) (W.ok a ha) (W.dp a ha))
    by_cases h0 : n = 0
    · have q : ¬ ((0 : Int) < (n : Int)) := by omega
      simp only [List.set_cons_zero, List.set_cons_succ, sIf_s, zOr_s, zNot_s, zUn_s, c, bind_ok, oTru, der_bl, truD, tst_ok, Bool.not_true, Bool.false_eq_true, if_false, zAnd_s, zBin_s, zVar_s, List.getElem?_cons_zero, List.getElem?_cons_succ, zC_s, qOp_s, oGtI_s, quiet_ok, decide_eq_false q, tstS_ok, sNext_s]
    · obtain ⟨n, rfl⟩ := Nat.exists_eq_succ_of_ne_zero h0
      have q : ((0 : Int) < ((n + 1 : Nat) : Int)) := by omega
      have hp : pre ≠ [] := fun h => by rw [h] at b2; cases b2
      obtain ⟨pi, b, hpre⟩ := (List.eq_nil_or_concat pre).resolve_left hp
      rw [List.concat_eq_append] at hpre
      subst hpre
      have pil : pi.length = n := by simp at b2; exact b2
      have at1 : (ws.map wD)[n]? = some (wD b) := by
        rw [b1, ← pil]
        simp
      have lt : b.1 < a.1 := by
        have up := W.up
        rw [b1, List.append_assoc, List.pairwise_append] at up
        have := (List.pairwise_cons.mp up.2.1).1 a (by simp)
        exact this
      have q2 : ¬ ((a.1 : Int) ≤ (b.1 : Int)) := by omega
      have sb : (((n + 1 : Nat) : Int) - 1) = (n : Int) := by omega
      have x1 : ∀ st : Sto, oIx (.tup (ws.map wD)) (.int (n : Int)) st = .ok (wD b) st := fun st => oIx_at at1
      have x2 : ∀ (w : Wh) (st : Sto), oIx (wD w) (.int 0) st = .ok (.int (w.1 : Int)) st := fun w st => oIx0
      simp only [List.set_cons_zero, List.set_cons_succ, sIf_s, zOr_s, zNot_s, zUn_s, c, bind_ok, oTru, der_bl, truD, tst_ok, Bool.not_true, Bool.false_eq_true, if_false, zAnd_s, zBin_s, zVar_s, List.getElem?_cons_zero, List.getElem?_cons_succ, zC_s, qOp_s, oGtI_s, quiet_ok, decide_eq_true q, if_true, oSubI_s, sb, x1, x2, oGeI_s, decide_eq_false q2, tstS_ok, sNext_s]
def ful (h : List Tm) (ws : List Wh) : Bool := ws.all fun w => decide (h.getD w.1 (.c 0) = w.2)
theorem fulfilled_ok {m : Mc} {ws : List Wh} {h : List Tm} (hm : m ∈ machines) (W : WhOk m ws) (H : h.length = m.cells) (hd : dmax h ≤ 8) : a_fulfilled [hD h, .tup (ws.map wD)] = .ok (.bl (ful h ws)) := by
  have e : a_fulfilled [hD h, .tup (ws.map wD)] = toA (m_fulfilled [some (hD h), some (.tup (ws.map wD)), none, none] []) := rfl
  rw [e]
  unfold m_fulfilled
  have key : ∀ l : List Wh, (∀ w ∈ l, w ∈ ws) → zGenL false (gT (gConsZ (gN 2) (gConsZ (gN 3) gNilZ))) (zBin (qOp (oEqD false)) (zBin (qOp oIx) (zVar 0) (zVar 2)) (zVar 3)) [some (hD h), some (.tup (ws.map wD)), none, none] (l.map wD) [] = .ok (.bl (ful h l)) [] := fun l => by
    induction l with
    | nil => intro _; rfl
    | cons w l ih =>
      intro hl
      have hw := hl w List.mem_cons_self
      have ih := ih fun u hu => hl u (List.mem_cons_of_mem _ hu)
      have gg : ∀ st : Sto, oIx (hD h) (.int (w.1 : Int)) st = .ok (tD (h.getD w.1 (.c 0))) st := fun st => getH (H ▸ W.at_ w hw)
      have ee : ∀ st : Sto, oEqD false (tD (h.getD w.1 (.c 0))) (tD w.2) st = .ok (.bl (decide (h.getD w.1 (.c 0) = w.2))) st := fun st => eqTm.eq (by decide) (Nat.le_trans (dep_le_dmax hd) (by decide)) (Nat.le_trans (W.dp w hw) (by decide))
      simp only [List.map_cons, zGenL, wD, gT_s, gCons_s, gN_s, gNil_s, List.set_cons_zero, List.set_cons_succ, zBin_s, zVar_s, List.getElem?_cons_zero, List.getElem?_cons_succ, bind_ok, qOp_s, gg, quiet_ok, ee]
      by_cases q : h.getD w.1 (.c 0) = w.2
      · simp only [q, decide_true, Bool.true_eq_false, if_false]
        rw [ih]
        simp only [ful, List.all_cons, q, decide_true, Bool.true_and]
      · simp only [q, decide_false, if_true, ful, List.all_cons, Bool.false_and]
  have k := key ws fun w h => h
  simp only [sRet_s, zGen, zIt_s, zVar_s, List.getElem?_cons_zero, List.getElem?_cons_succ, bind_ok, frz_tup, asL_ok, items_tup, wipeD, List.set_cons_zero, List.set_cons_succ, k, bindS_ok, toA, frz_bl, D.pure, if_true]
/-! ### dicts keyed by what cells hold -/
def tK : Tm → NestedKey
  | .c i => .num i
  | .f1 k a => .tup [.num k, tK a]
  | .f2 k a b => .tup [.num k, tK a, tK b]
theorem tK_key : ∀ t : Tm, D.key (tD t) = some (tK t)
  | .c i => rfl
  | .f1 k a => by simp [tD, tK, D.key, D.keys, tK_key a]
  | .f2 k a b => by simp [tD, tK, D.key, D.keys, tK_key a, tK_key b]
theorem tK_inj : ∀ {a b : Tm}, tK a = tK b → a = b
  | .c i, .c j, h => by simp only [tK, NestedKey.num.injEq] at h; rw [show i = j by omega]
  | .c i, .f1 k a, h => by simp [tK] at h
  | .c i, .f2 k a b, h => by simp [tK] at h
  | .f1 k a, .c j, h => by simp [tK] at h
  | .f1 k a, .f1 l b, h => by
    simp only [tK, NestedKey.tup.injEq, List.cons.injEq, NestedKey.num.injEq, and_true] at h
    rw [show k = l by omega, tK_inj h.2]
  | .f1 k a, .f2 l b c, h => by simp [tK] at h
  | .f2 k a b, .c j, h => by simp [tK] at h
  | .f2 k a b, .f1 l c, h => by simp [tK] at h
  | .f2 k a b, .f2 l c d, h => by
    simp only [tK, NestedKey.tup.injEq, List.cons.injEq, NestedKey.num.injEq, and_true] at h
    rw [show k = l by omega, tK_inj h.2.1, tK_inj h.2.2]
theorem tK_depth : ∀ t : Tm, (tK t).depth + 1 ≤ dep t
  | .c i => Nat.le_refl _
  | .f1 k a => by have := tK_depth a; simp only [tK, NestedKey.depth, NestedKey.depthAll, dep]; omega
  | .f2 k a b => by have := tK_depth a; have := tK_depth b; simp only [tK, NestedKey.depth, NestedKey.depthAll, dep]; omega
theorem keys_tm : ∀ h : List Tm, D.keys (h.map tD) = some (h.map tK)
  | [] => rfl
  | t :: h => by simp [D.keys, tK_key t, keys_tm h]
theorem key_hD (h : List Tm) : D.key (hD h) = some (.tup (h.map tK)) := by
  show (D.keys (h.map tD)).map NestedKey.tup = _
  rw [keys_tm]; rfl
theorem map_inj {α β : Type} {f : α → β} (hf : ∀ {a b}, f a = f b → a = b) : ∀ {l m : List α}, l.map f = m.map f → l = m
  | [], [], _ => rfl
  | [], _ :: _, h => by simp at h
  | _ :: _, [], h => by simp at h
  | a :: l, b :: m, h => by
    simp only [List.map_cons, List.cons.injEq] at h
    rw [hf h.1, map_inj hf h.2]
theorem keyA_depth : ∀ h : List Tm, NestedKey.depthAll (h.map tK) + 1 ≤ dmax h
  | [] => Nat.le_refl _
  | t :: h => by have := tK_depth t; have := keyA_depth h; simp only [List.map_cons, NestedKey.depthAll, dmax]; omega
theorem kOf_hD {h : List Tm} (hd : dmax h ≤ 8) : kOf (hD h) = some (.tup (h.map tK)) := by
  have := keyA_depth h
  have d : (NestedKey.tup (h.map tK)).depth ≤ 8 := by simp only [NestedKey.depth]; omega
  unfold kOf
  rw [key_hD]
  simp only [isTupK, d, decide_true, Bool.and_self, if_true]
theorem keyH_eq {h k : List Tm} : (D.key (hD h) = some (NestedKey.tup (k.map tK))) = (h = k) := by
  rw [key_hD]
  simp only [Option.some.injEq, NestedKey.tup.injEq, eq_iff_iff]
  exact ⟨map_inj tK_inj, fun e => by rw [e]⟩
abbrev Es := List (List Tm × Int)
abbrev eD (es : Es) : D := .dct (es.map fun e => hD e.1) (es.map fun e => .int e.2)
def gete : Es → List Tm → Int
  | [], _ => 0
  | e :: r, h => if e.1 = h then e.2 else gete r h
def pute : Es → List Tm → Int → Es
  | [], h, x => [(h, x)]
  | e :: r, h, x => if e.1 = h then (e.1, x) :: r else e :: pute r h x
theorem dget_e (h : List Tm) : ∀ es : Es, (match dget (es.map fun e => hD e.1) (es.map fun e => D.int e.2) (.tup (h.map tK)) with | some v => v | none => D.int 0) = .int (gete es h)
  | [] => rfl
  | e :: r => by
    simp only [List.map_cons, dget, keyH_eq, gete]
    by_cases q : e.1 = h
    · simp only [q, if_true]
    · simp only [q, if_false]
      exact dget_e h r
theorem dput_e (h : List Tm) (x : Int) : ∀ es : Es, dput (es.map fun e => hD e.1) (es.map fun e => D.int e.2) (hD h) (.tup (h.map tK)) (.int x) = ((pute es h x).map (fun e => hD e.1), (pute es h x).map fun e => D.int e.2)
  | [] => rfl
  | e :: r => by
    simp only [List.map_cons, dput, keyH_eq, pute]
    by_cases q : e.1 = h
    · simp only [q, if_true, List.map_cons]
    · simp only [q, if_false, List.map_cons, dput_e h x r]
theorem get_ok {h : List Tm} {es : Es} {n : Nat} {st : Sto} (hd : dmax h ≤ 8) (hs : st[n]? = some (true, eD es)) : oGet (.loc n) [hD h, .int 0] st = .ok (.int (gete es h)) st := by
  have dr : der st (.loc n) = eD es := by simp only [der, hs]
  have q := dget_e h es
  unfold oGet
  rw [dr]
  simp only [kOf_hD hd]
  cases e : dget (es.map fun e => hD e.1) (es.map fun e => D.int e.2) (.tup (h.map tK)) with
  | none => rw [e] at q; simp only at q ⊢; rw [q]
  | some v => rw [e] at q; simp only at q ⊢; rw [q]
theorem put_ok {h : List Tm} {x : Int} {es : Es} {n : Nat} {st : Sto} (hd : dmax h ≤ 8) (hl : es.length < sizeLine) (hs : st[n]? = some (true, eD es)) : or3 oSetL oSetD (.loc n) (hD h) (.int x) st = some (st.set n (true, eD (pute es h x))) := by
  have e1 : oSetL (.loc n) (hD h) (.int x) st = none := rfl
  have e2 : oSetD (.loc n) (hD h) (.int x) st = some (st.set n (true, eD (pute es h x))) := by
    unfold oSetD
    simp only [hs, kOf_hD hd, List.length_map, hl, if_true, dput_e]
  unfold or3
  rw [e1, e2]
end Nk05

set_option Elab.async false
set_option linter.all false
set_option maxRecDepth 100000
set_option maxHeartbeats 2000000
namespace Nk05
open PySem PySem.Spec PyProof.Rows L2 Zl
/-! ### right_chance -/
def addw (acc : Es) (h : List Tm) (x w : Int) : Es := if w = 0 then acc else pute acc h (gete acc h + x * w)
def stepE (u t : Int) (l : Ln) (acc : Es) (e : List Tm × Int) : Es := addw (addw acc (step e.1 l) e.2 u) e.1 e.2 t
def nextE (u t : Int) (s : Es × Int) (l : Ln) : Es × Int := (s.1.foldl (stepE u t l) [], s.2 * (u + t))
theorem pute_len : ∀ (es : Es) (h : List Tm) (x : Int), (pute es h x).length ≤ es.length + 1
  | [], _, _ => Nat.le_refl _
  | e :: r, h, x => by
    have := pute_len r h x
    unfold pute
    split <;> simp <;> omega
theorem addw_len {acc : Es} {h : List Tm} {x w : Int} : (addw acc h x w).length ≤ acc.length + 1 := by
  unfold addw
  split
  · omega
  · exact pute_len _ _ _
theorem stepE_len {u t : Int} {l : Ln} {acc : Es} {e : List Tm × Int} : (stepE u t l acc e).length ≤ acc.length + 2 := by
  unfold stepE
  have h1 := addw_len (acc := acc) (h := step e.1 l) (x := e.2) (w := u)
  have h2 := addw_len (acc := addw acc (step e.1 l) e.2 u) (h := e.1) (x := e.2) (w := t)
  omega
@[simp] theorem zMethN_s {chk : D → Bool} {op : D → List D → Sto → R} {fo : ZE} {l : ZL} {vars : Vars} {st : Sto} : zMethN chk op fo l vars st = (fo vars st).bind fun o st => if chk (der st o) = true then (l vars st).bind fun ds st => op o ds st else .stuck := rfl
abbrev sPut : ZS := (sIf (zUn oTru (zVar 15)) (sSub (or3 oSetL oSetD) (zBin (qOp (oAdd false)) (zMethN isDct (fun o ds st => (oGet o ds st).quiet) (zVar 11) (zCons (zVar 14) (zCons (zC (.int 0)) zNil))) (zBin (qOp oMul) (zVar 13) (zVar 15))) (zVar 11) (zVar 14)) sNext)
theorem setw_ok {vars : Vars} {st : Sto} {L : Nat} {x w : Int} {h : List Tm} {acc : Es} (h11 : vars[11]? = some (some (.loc L))) (h13 : vars[13]? = some (some (.int x))) (h14 : vars[14]? = some (some (hD h))) (h15 : vars[15]? = some (some (.int w))) (hd : dmax h ≤ 8) (hw : 0 ≤ w ∧ w ≤ 1000) (hs : st[L]? = some (true, eD acc)) (hl : acc.length < sizeLine) :
    ∃ st', sPut vars st = .nx vars st' ∧ st'[L]? = some (true, eD (addw acc h x w)) := by
  have tr : oTru (.int w) st = .ok (.bl (w != 0)) st := rfl
  by_cases q : w = 0
  · refine ⟨st, ?_, by rw [addw, if_pos q]; exact hs⟩
    have q' : (w != 0) = false := by simp [q]
    simp only [sPut, sIf_s, zUn_s, zVar_s, h15, bind_ok, tr, q', tstS_ok, Bool.false_eq_true, if_false, sNext_s]
  · have q' : (w != 0) = true := by simp [q]
    have dr : isDct (der st (.loc L)) = true := by simp only [der, hs, isDct]
    have cm : cMul x w = true := by
      simp only [cMul, decide_eq_true_eq]
      right
      have : (2 : Int) ^ 64 = 18446744073709551616 := by decide
      omega
    refine ⟨st.set L (true, eD (pute acc h (gete acc h + x * w))), ?_, ?_⟩
    · simp only [sPut, sIf_s, zUn_s, zVar_s, h15, bind_ok, tr, q', tstS_ok, if_true, sSub_s, zBin_s, zMethN_s, h11, dr, zCons_s, h14, bindL_ok, zC_s, zNil_s, lbindL_ok, lbind_ok, get_ok hd hs, quiet_ok, h13, qOp_s, oMul_s, cm, oAdd_s, bindS_ok, put_ok hd hl hs]
    · have hL : L < st.length := (List.getElem?_eq_some_iff.mp hs).1
      rw [List.getElem?_set_self hL, addw, if_neg q]
abbrev VR (m : Mc) (p : List Ln) (t b : Int) (ws : List Wh) (x4 x9 : Option D) (whole : Int) (x11 x12 x13 x14 x15 : Option D) : Vars := [some (mD m), some (.tup (p.map lD)), some (.tup [.int t, .int b]), some (.tup (ws.map wD)), x4, none, none, some (.int t), some (.int b), x9, some (.int whole), x11, x12, x13, x14, x15]
abbrev sTwo : ZS := (sFor (zIt (zTup (zCons (zTup (zCons (zCallA a_done (zCons (zVar 12) (zCons (zVar 4) zNil))) (zCons (zBin (qOp oSubI) (zVar 8) (zVar 7)) zNil))) (zCons (zTup (zCons (zVar 12) (zCons (zVar 7) zNil))) zNil)))) (gT (gConsZ (gN 14) (gConsZ (gN 15) gNilZ))) sPut)
theorem two_ok {m : Mc} {p : List Ln} {t b : Int} {ws : List Wh} {l : Ln} {x9 x14 x15 : Option D} {whole : Int} {L : Nat} {h : List Tm} {x : Int} {acc : Es} {st : Sto} (ht : 0 ≤ t ∧ t ≤ b ∧ b ≤ 1000) (hl : l.in h.length) (hn : h.length ≤ 1000) (hd : dmax h ≤ 7) (hs : st[L]? = some (true, eD acc)) (ha : acc.length + 2 ≤ 10000) :
    ∃ y14 y15 st', sTwo (VR m p t b ws (some (lD l)) x9 whole (some (.loc L)) (some (hD h)) (some (.int x)) x14 x15) st = .nx (VR m p t b ws (some (lD l)) x9 whole (some (.loc L)) (some (hD h)) (some (.int x)) y14 y15) st' ∧ st'[L]? = some (true, eD (stepE (b - t) t l acc (h, x))) := by
  have hz := sizeLine_val
  have k2 : 2 ≤ sizeLine := by omega
  have sd := step_dep h l
  have ld := ln_dep h l
  have c : zCallA a_done (zCons (zVar 12) (zCons (zVar 4) zNil)) (VR m p t b ws (some (lD l)) x9 whole (some (.loc L)) (some (hD h)) (some (.int x)) x14 x15) st = .ok (hD (step h l)) st := callA_ok (ds := [hD h, lD l]) rfl (pures2 (pure_hD h) (pure_lD l)) (done_ok hn hl (by omega))
  obtain ⟨st1, e1, g1⟩ := setw_ok (vars := VR m p t b ws (some (lD l)) x9 whole (some (.loc L)) (some (hD h)) (some (.int x)) (some (hD (step h l))) (some (.int (b - t)))) (st := st) (L := L) (x := x) (w := b - t) (h := step h l) (acc := acc) rfl rfl rfl rfl (by omega) (by omega) hs (by omega)
  have l1 := addw_len (acc := acc) (h := step h l) (x := x) (w := b - t)
  obtain ⟨st2, e2, g2⟩ := setw_ok (vars := VR m p t b ws (some (lD l)) x9 whole (some (.loc L)) (some (hD h)) (some (.int x)) (some (hD h)) (some (.int t))) (st := st1) (L := L) (x := x) (w := t) (h := h) (acc := addw acc (step h l) x (b - t)) rfl rfl rfl rfl (by omega) (by omega) g1 (by omega)
  refine ⟨some (hD h), some (.int t), st2, ?_, g2⟩
  have it : zIt (zTup (zCons (zTup (zCons (zCallA a_done (zCons (zVar 12) (zCons (zVar 4) zNil))) (zCons (zBin (qOp oSubI) (zVar 8) (zVar 7)) zNil))) (zCons (zTup (zCons (zVar 12) (zCons (zVar 7) zNil))) zNil))) (VR m p t b ws (some (lD l)) x9 whole (some (.loc L)) (some (hD h)) (some (.int x)) x14 x15) st = .ok [.tup [hD (step h l), .int (b - t)], .tup [hD h, .int t]] st := by
    have v12 : (VR m p t b ws (some (lD l)) x9 whole (some (.loc L)) (some (hD h)) (some (.int x)) x14 x15)[12]? = some (some (hD h)) := rfl
    have v7 : (VR m p t b ws (some (lD l)) x9 whole (some (.loc L)) (some (hD h)) (some (.int x)) x14 x15)[7]? = some (some (.int t)) := rfl
    have v8 : (VR m p t b ws (some (lD l)) x9 whole (some (.loc L)) (some (hD h)) (some (.int x)) x14 x15)[8]? = some (some (.int b)) := rfl
    simp only [zIt_s, zTup_s, zCons_s, c, bindL_ok, zBin_s, zVar_s, v12, v7, v8, bind_ok, qOp_s, oSubI_s, quiet_ok, zNil_s, lbindL_ok, lbind_ok, List.length_cons, List.length_nil, Nat.zero_add, Nat.reduceAdd, if_pos k2, frz_tup, asL_ok, items_tup]
  show (match zIt _ _ st with | .ok items st => zForL _ sPut items _ st | .rz x st => .rz x _ st | .stuck => .stuck) = _
  rw [it]
  simp only [zForL, gT_s, gCons_s, gN_s, gNil_s, List.set_cons_zero, List.set_cons_succ, e1, e2]
/-- the dict in a slot -/
def DV (st : Sto) (d : D) (es : Es) : Prop := d = eD es ∨ ∃ n, d = .loc n ∧ st[n]? = some (true, eD es)
def TE (e : List Tm × Int) : D := .tup [hD e.1, .int e.2]
theorem dits_e : ∀ es : Es, List.zipWith (fun k v => D.tup [k, v]) (es.map fun e => hD e.1) (es.map fun e => D.int e.2) = es.map TE
  | [] => rfl
  | e :: r => by simp only [List.map_cons, List.zipWith_cons_cons, dits_e r, TE]
theorem items_ok {vars : Vars} {i : Nat} {st : Sto} {d : D} {es : Es} (hv : vars[i]? = some (some d)) (h : DV st d es) : ∃ st1, zItems (zVar i) vars st = .ok (es.map TE) st1 ∧ ∀ (L : Nat) (c : D), d ≠ .loc L → st[L]? = some (true, c) → st1[L]? = some (true, c) := by
  rcases h with rfl | ⟨n, rfl, hn⟩
  · refine ⟨st, ?_, fun L c _ h => h⟩
    have f : frz (eD es) st = .ok (eD es) st := rfl
    simp only [zItems_s, zVar_s, hv, bind_ok, f, asL_ok, dits, dits_e]
  · refine ⟨st.set n (false, eD es), ?_, fun L c hL h => by
      rw [List.getElem?_set_ne (fun e => hL (by rw [e]))]
      exact h⟩
    have f : frz (.loc n) st = .ok (eD es) (st.set n (false, eD es)) := by simp only [frz, hn]
    simp only [zItems_s, zVar_s, hv, bind_ok, f, asL_ok, dits, dits_e]
abbrev sLine : ZS := (sSeq (sAsg (zDct0 true) (gN 11))
      (sSeq (sFor (zItems (zVar 9)) (gT (gConsZ (gN 12) (gConsZ (gN 13) gNilZ))) sTwo)
      (sSeq (sIf (zBin (qOp oGtI) (zApp (qOpN oLen) (zCons (zVar 11) zNil)) (zC (.int 3000))) sStuck sNext)
      (sPar 9 10 (zCons (zVar 11) (zCons (zBin (qOp oMul) (zVar 10) (zVar 8)) zNil))))))
theorem foldl_len {u t : Int} {l : Ln} : ∀ (es acc : Es), (es.foldl (stepE u t l) acc).length ≤ acc.length + 2 * es.length
  | [], acc => by simp
  | e :: r, acc => by
    have h1 := stepE_len (u := u) (t := t) (l := l) (acc := acc) (e := e)
    have h2 := foldl_len (u := u) (t := t) (l := l) r (stepE u t l acc e)
    simp only [List.foldl_cons, List.length_cons]
    omega
theorem line_ok {m : Mc} {p : List Ln} {t b : Int} {ws : List Wh} {l : Ln} {x11 x12 x13 x14 x15 : Option D} {whole : Int} {d : D} {es : Es} {st : Sto} (ht : 0 ≤ t ∧ t ≤ b ∧ b ≤ 1000) (h1 : m.cells ≤ 1000) (hl : l.in m.cells) (hd : DV st d es) (he : ∀ e ∈ es, e.1.length = m.cells ∧ dmax e.1 ≤ 7) (hn : 2 * es.length ≤ 3000) :
    ∃ d' y12 y13 y14 y15 st', sLine (VR m p t b ws (some (lD l)) (some d) whole x11 x12 x13 x14 x15) st = .nx (VR m p t b ws (some (lD l)) (some d') (whole * b) (some d') y12 y13 y14 y15) st' ∧ DV st' d' (es.foldl (stepE (b - t) t l) []) := by
  have hz := sizeLine_val
  have hne : d ≠ .loc st.length := by
    rcases hd with rfl | ⟨n, rfl, hn⟩
    · intro e; cases e
    · intro e
      cases e
      have := (List.getElem?_eq_some_iff.mp hn).1
      omega
  have hd1 : DV (st ++ [(true, eD [])]) d es := by
    rcases hd with rfl | ⟨n, rfl, hn⟩
    · exact .inl rfl
    · refine .inr ⟨n, rfl, ?_⟩
      rw [List.getElem?_append_left (List.getElem?_eq_some_iff.mp hn).1]
      exact hn
  obtain ⟨st1, e1, k1⟩ := items_ok (vars := VR m p t b ws (some (lD l)) (some d) whole (some (.loc st.length)) x12 x13 x14 x15) (i := 9) (st := st ++ [(true, eD [])]) rfl hd1
  have s1 := k1 st.length (eD []) hne (by simp)
  have fi := for_inv (T := TE) (g := gT (gConsZ (gN 12) (gConsZ (gN 13) gNilZ))) (b := sTwo) (F := stepE (b - t) t l)
      (I := fun r acc v st' => st'[st.length]? = some (true, eD acc) ∧ acc.length + 2 * r.length ≤ 3000 ∧ (∀ e ∈ r, e.1.length = m.cells ∧ dmax e.1 ≤ 7) ∧ ∃ y12 y13 y14 y15, v = VR m p t b ws (some (lD l)) (some d) whole (some (.loc st.length)) y12 y13 y14 y15)
      (fun acc e r vars st' hh => ?_) es [] (VR m p t b ws (some (lD l)) (some d) whole (some (.loc st.length)) x12 x13 x14 x15) st1
      ⟨s1, by simpa using hn, he, _, _, _, _, rfl⟩
  · obtain ⟨v2, st2, e2, g2, g3, _, y12, y13, y14, y15, rfl⟩ := fi
    refine ⟨.loc st.length, y12, y13, y14, y15, st2, ?_, .inr ⟨_, rfl, g2⟩⟩
    have ol : oLen [.loc st.length] st2 = .ok (.int (es.foldl (stepE (b - t) t l) []).length) st2 := by
      unfold oLen lenD
      simp only [der, g2, List.length_map]
      rw [if_pos (by simp at g3; omega)]
    have nl : ¬ ((3000 : Int) < ((es.foldl (stepE (b - t) t l) []).length : Int)) := by simp at g3; omega
    have cm : cMul whole b = true := by
      simp only [cMul, decide_eq_true_eq]
      right
      have : (2 : Int) ^ 64 = 18446744073709551616 := by decide
      omega
    have lp : (sFor (zItems (zVar 9)) (gT (gConsZ (gN 12) (gConsZ (gN 13) gNilZ))) sTwo) (VR m p t b ws (some (lD l)) (some d) whole (some (.loc st.length)) x12 x13 x14 x15) (st ++ [(true, eD [])]) = .nx (VR m p t b ws (some (lD l)) (some d) whole (some (.loc st.length)) y12 y13 y14 y15) st2 := by
      show (match zItems (zVar 9) _ _ with | .ok items st => zForL _ sTwo items _ st | .rz x st => .rz x _ st | .stuck => .stuck) = _
      rw [e1]
      exact e2
    have a1 : sAsg (zDct0 true) (gN 11) (VR m p t b ws (some (lD l)) (some d) whole x11 x12 x13 x14 x15) st = .nx (VR m p t b ws (some (lD l)) (some d) whole (some (.loc st.length)) x12 x13 x14 x15) (st ++ [(true, eD [])]) := rfl
    simp only [sLine, sSeq_s, a1, sbind_nx, lp]
    simp only [VR, sIf_s, zBin_s, zApp_s, zCons_s, zVar_s, List.getElem?_cons_zero, List.getElem?_cons_succ, bind_ok, bindL_ok, zNil_s, lbindL_ok, lbind_ok, qOpN_s, ol, quiet_ok, zC_s, qOp_s, oGtI_s, decide_eq_false nl, tstS_ok, Bool.false_eq_true, if_false, sNext_s, sbind_nx, sPar_s, oMul_s, cm, if_true, List.set_cons_zero, List.set_cons_succ]
  · obtain ⟨g1, g2, g3, y12, y13, y14, y15, rfl⟩ := hh
    have ge := g3 e List.mem_cons_self
    simp only [List.length_cons] at g2
    obtain ⟨z14, z15, st2, e2, k2⟩ := two_ok (m := m) (p := p) (t := t) (b := b) (ws := ws) (l := l) (x9 := some d) (x14 := y14) (x15 := y15) (whole := whole) (L := st.length) (h := e.1) (x := e.2) (acc := acc) (st := st') ht (by rw [ge.1]; exact hl) (by omega) ge.2 g1 (by omega)
    refine ⟨VR m p t b ws (some (lD l)) (some d) whole (some (.loc st.length)) (some (hD e.1)) (some (.int e.2)) y14 y15, rfl, _, _, .inl e2, k2, ?_, fun e he => g3 e (List.mem_cons_of_mem _ he), _, _, _, _, rfl⟩
    have := stepE_len (u := b - t) (t := t) (l := l) (acc := acc) (e := e)
    omega
end Nk05

set_option Elab.async false
set_option linter.all false
set_option maxRecDepth 100000
set_option maxHeartbeats 2000000
namespace Nk05
open PySem PySem.Spec PyProof.Rows L2 Zl
/-! ### the gcd loop -/
def gcdL : Nat → Int → Int → Int
  | 0, a, _ => a
  | n + 1, a, b => if b = 0 then a else gcdL n b (a % b)
theorem gcdL_bd : ∀ {n : Nat} {a b : Int}, 0 < b → 0 < gcdL (n + 1) a b ∧ gcdL (n + 1) a b ≤ b
  | 0, a, b, h => by
    have q : ¬ (b = 0) := by omega
    unfold gcdL
    rw [if_neg q]
    exact ⟨h, Int.le_refl _⟩
  | n + 1, a, b, h => by
    have q : ¬ (b = 0) := by omega
    have m0 := Int.emod_nonneg a q
    have m1 := Int.emod_lt_of_pos a h
    unfold gcdL
    rw [if_neg q]
    by_cases z : a % b = 0
    · have e : gcdL (n + 1) b (a % b) = b := by unfold gcdL; rw [if_pos z]
      rw [e]
      exact ⟨h, Int.le_refl _⟩
    · have := gcdL_bd (n := n) (a := b) (b := a % b) (by omega)
      exact ⟨this.1, by omega⟩
/-- a while loop that runs the gcd's steps -/
theorem wh_gcd {t : ZE} {s : ZS} {V : Int → Int → Vars} {st : Sto} (h1 : ∀ a b, 0 ≤ b → t (V a b) st = .ok (.bl (decide (b ≠ 0))) st) (h2 : ∀ a b, 0 < b → s (V a b) st = .nx (V b (a % b)) st) :
    ∀ (n : Nat) (a b : Int), 0 ≤ b → b < n → zWh t s n (V a b) st = .nx (V (gcdL n a b) 0) st
  | 0, a, b, h, hn => by omega
  | n + 1, a, b, h, hn => by
    show (t (V a b) st).tstS (V a b) _ = _
    rw [h1 a b h, tstS_ok]
    by_cases q : b = 0
    · subst q
      rw [if_neg (by simp)]
      unfold gcdL
      rw [if_pos rfl]
    · have hb : 0 < b := by omega
      have m0 := Int.emod_nonneg a q
      have m1 := Int.emod_lt_of_pos a hb
      rw [if_pos (by simp [q]), h2 a b hb]
      have ih := wh_gcd h1 h2 n b (a % b) m0 (by omega)
      unfold gcdL
      rw [if_neg q]
      exact ih
theorem oTruI {i : Int} {st : Sto} : oTru (.int i) st = .ok (.bl (decide (i ≠ 0))) st := by
  have e : (i != 0) = decide (i ≠ 0) := by rw [Bool.eq_iff_iff]; simp
  show R.ok (.bl (i != 0)) st = _
  rw [e]
theorem common_ok {fu : Nat} {a b : Int} (h : 0 ≤ b) (hf : b < fu) : a_common fu [.int a, .int b] = .ok (.int (gcdL fu a b)) := by
  have e : a_common fu [.int a, .int b] = toA (m_common fu [some (.int a), some (.int b)] []) := rfl
  have w := wh_gcd (t := zUn oTru (zVar 1)) (s := sPar 0 1 (zCons (zVar 1) (zCons (zBin (qOp oModI) (zVar 0) (zVar 1)) zNil))) (V := fun a b => [some (.int a), some (.int b)]) (st := [])
    (fun a b h => by simp only [zUn_s, zVar_s, List.getElem?_cons_zero, List.getElem?_cons_succ, bind_ok, oTruI])
    (fun a b h => by simp only [sPar_s, zCons_s, zVar_s, List.getElem?_cons_zero, List.getElem?_cons_succ, bindL_ok, zBin_s, bind_ok, qOp_s, oMod_s, if_pos h, quiet_ok, zNil_s, lbindL_ok, List.set_cons_zero, List.set_cons_succ]) fu a b h hf
  rw [e]
  unfold m_common
  rw [sSeq_s, w, sbind_nx]
  rfl
/-! ### right_chance, whole -/
theorem ev_line {es : Es} {u t : Int} {l : Ln} {n : Nat} (P : List Tm → Prop) (h0 : ∀ e ∈ es, P e.1 ∧ P (step e.1 l)) : ∀ acc : Es, (∀ e ∈ acc, P e.1) → ∀ e ∈ es.foldl (stepE u t l) acc, P e.1 := by
  have put : ∀ (acc : Es) (h : List Tm) (x : Int), (∀ e ∈ acc, P e.1) → P h → ∀ e ∈ pute acc h x, P e.1 := fun acc => by
    induction acc with
    | nil => intro h x _ hp e he; simp only [pute, List.mem_singleton] at he; subst he; exact hp
    | cons a r ih =>
      intro h x ha hp e he
      unfold pute at he
      split at he
      · rcases List.mem_cons.mp he with rfl | he
        · exact ha a List.mem_cons_self
        · exact ha e (List.mem_cons_of_mem _ he)
      · rcases List.mem_cons.mp he with rfl | he
        · exact ha e List.mem_cons_self
        · exact ih h x (fun e he => ha e (List.mem_cons_of_mem _ he)) hp e he
  have add : ∀ (acc : Es) (h : List Tm) (x w : Int), (∀ e ∈ acc, P e.1) → P h → ∀ e ∈ addw acc h x w, P e.1 := fun acc h x w ha hp => by
    unfold addw
    split
    · exact ha
    · exact put _ _ _ ha hp
  induction es with
  | nil => intro acc ha; exact ha
  | cons a r ih =>
    intro acc ha
    have q := h0 a List.mem_cons_self
    exact ih (fun e he => h0 e (List.mem_cons_of_mem _ he)) _ (add _ _ _ _ (add _ _ _ _ ha q.2) q.1)
def good (ws : List Wh) (es : Es) : Int := ((es.filter fun e => ful e.1 ws).map (·.2)).sum
theorem need_chance_ok {t b : Int} (h : 0 ≤ t ∧ t ≤ b ∧ 1 ≤ b ∧ b ≤ 1000) : a_need_chance [.tup [.int t, .int b]] = .ok .non := by
  have e : a_need_chance [.tup [.int t, .int b]] = toA (m_need_chance [some (.tup [.int t, .int b])] []) := rfl
  have hz := sizeLine_val
  have ol : ∀ st : Sto, oLen [.tup [.int t, .int b]] st = .ok (.int 2) st := fun st => by rw [oLen_tup (by simp; omega)]; rfl
  have ne : ∀ st : Sto, oEqD true (.int 2) (.int 2) st = .ok (.bl false) st := fun st => oEqI
  have c1 : zCallA a_is_number (zCons (zBin (qOp oIx) (zVar 0) (zC (.int 1))) (zCons (zC (.int 1)) (zCons (zC (.int 1000)) zNil))) [some (.tup [.int t, .int b])] [] = .ok (.bl true) [] := by
    refine callA_ok (ds := [.int b, .int 1, .int 1000]) rfl rfl ?_
    rw [is_number_ok]
    simp [h.2.2.1, h.2.2.2]
  have c2 : zCallA a_is_number (zCons (zBin (qOp oIx) (zVar 0) (zC (.int 0))) (zCons (zC (.int 0)) (zCons (zBin (qOp oIx) (zVar 0) (zC (.int 1))) zNil))) [some (.tup [.int t, .int b])] [] = .ok (.bl true) [] := by
    refine callA_ok (ds := [.int t, .int 0, .int b]) rfl rfl ?_
    rw [is_number_ok]
    simp [h.1, h.2.1]
  rw [e]
  unfold m_need_chance
  simp only [sSeq_s, sIf_s, zOr_s, zNot_s, zUn_s, zVar_s, List.getElem?_cons_zero, List.getElem?_cons_succ, bind_ok, oIsi, der_tup_s, pTup, tst_ok, Bool.not_true, Bool.false_eq_true, if_false, zBin_s, zApp_s, zCons_s, bindL_ok, zNil_s, lbindL_ok, lbind_ok, qOpN_s, ol, quiet_ok, zC_s, qOp_s, ne, c1, c2, oTru, der_bl, truD, tstS_ok, sNext_s, sbind_nx, toA]
theorem first_ok {m : Mc} (h : m.cells ≤ 1000) : a_first_terms [mD m] = .ok (hD (cells0 m.cells)) := by
  have e : a_first_terms [mD m] = toA (m_first_terms [some (mD m)] []) := rfl
  rw [e]
  unfold m_first_terms
  have pp : D.pure (hD (cells0 m.cells)) = true := pure_hD _
  simp only [sRet_s, zUn_s, zBin_s, zVar_s, List.getElem?_cons_zero, bind_ok, zC_s, qOp_s, oIx0, quiet_ok, tupRg_cells h, bindS_ok, toA, frz_tup]
  exact if_pos pp
end Nk05

set_option Elab.async false
set_option linter.all false
set_option maxRecDepth 100000
set_option maxHeartbeats 2000000
namespace Nk05
open PySem PySem.Spec PyProof.Rows L2 Zl
theorem lc_ifT {α : Type} {T : α → D} {g : ZG} {t f : ZE} {v0 : Vars} {st : Sto} {p : α → Bool} {F : α → D} : ∀ {l : List α}, (∀ a ∈ l, ∃ v1, g (T a) v0 = some v1 ∧ t v1 st = .ok (.bl (p a)) st ∧ (p a = true → f v1 st = .ok (F a) st)) → zLcL g t f v0 (l.map T) st = .ok ((l.filter p).map F) st
  | [], _ => rfl
  | a :: l, h => by
    obtain ⟨v1, e1, e2, e3⟩ := h a List.mem_cons_self
    have ih := lc_ifT (l := l) fun b hb => h b (List.mem_cons_of_mem _ hb)
    simp only [List.map_cons, zLcL, e1, e2, tstL_ok]
    cases q : p a with
    | true => simp only [if_true, e3 q, ih, List.filter_cons_of_pos q, List.map_cons]
    | false =>
      have q' : ¬ (p a = true) := by simp [q]
      simp only [Bool.false_eq_true, if_false, ih, List.filter_cons_of_neg q']
def nextB (t b : Int) (s : Es × Int) (l : Ln) : Es × Int := (s.1.foldl (stepE (b - t) t l) [], s.2 * b)
abbrev rNeeds : ZS := (sSeq (sDrop (zCallA a_need_machine (zCons (zVar 0) zNil)))
      (sSeq (sDrop (zCallA a_need_program (zCons (zVar 0) (zCons (zVar 1) zNil))))
      (sSeq (sDrop (zCallA a_need_chance (zCons (zVar 2) zNil)))
      (sDrop (zCallA a_need_wishes (zCons (zVar 0) (zCons (zVar 3) zNil)))))))
abbrev rLoop : ZS := (sFor (zIt (zVar 1)) (gN 4) sLine)
abbrev rSum : ZS := (sAsg (zApp (qOpN oSum) (zCons (zLc false (zItems (zVar 9)) (gT (gConsZ (gN 12) (gConsZ (gN 13) gNilZ))) (zUn oTru (zCallA a_fulfilled (zCons (zVar 12) (zCons (zVar 3) zNil)))) (zVar 13) [12, 13]) zNil)) (gN 5))
abbrev rEnd (fu : Nat) : ZS := (sSeq rSum
      (sSeq (sAsg (zCallA (a_common fu) (zCons (zVar 5) (zCons (zVar 10) zNil))) (gN 6))
      (sRet (zTup (zCons (zBin (qOp oDivI) (zVar 5) (zVar 6)) (zCons (zBin (qOp oDivI) (zVar 10) (zVar 6)) zNil))))))
abbrev rPar : ZS := (sPar 9 10 (zCons (zDct1 false (zCallA a_first_terms (zCons (zVar 0) zNil)) (zC (.int 1))) (zCons (zC (.int 1)) zNil)))
theorem rc_eq (fu : Nat) : m_right_chance fu = sSeq (sDrop (zCallA a_need_machine (zCons (zVar 0) zNil))) (sSeq (sDrop (zCallA a_need_program (zCons (zVar 0) (zCons (zVar 1) zNil)))) (sSeq (sDrop (zCallA a_need_chance (zCons (zVar 2) zNil))) (sSeq (sDrop (zCallA a_need_wishes (zCons (zVar 0) (zCons (zVar 3) zNil)))) (sSeq (sAsg (zVar 2) (gT (gConsZ (gN 7) (gConsZ (gN 8) gNilZ)))) (sSeq rPar (sSeq rLoop (rEnd fu))))))) := rfl
theorem rPar_ok {m : Mc} {p : List Ln} {t b : Int} {ws : List Wh} (h3 : m.cells ≤ 3) : rPar [some (mD m), some (.tup (p.map lD)), some (.tup [.int t, .int b]), some (.tup (ws.map wD)), none, none, none, some (.int t), some (.int b), none, none, none, none, none, none, none] [] = .nx (VR m p t b ws none (some (eD [(cells0 m.cells, 1)])) 1 none none none none none) [(false, eD [(cells0 m.cells, 1)])] := by
  have hz := sizeLine_val
  have c1 : ∀ st : Sto, zCallA a_first_terms (zCons (zVar 0) zNil) [some (mD m), some (.tup (p.map lD)), some (.tup [.int t, .int b]), some (.tup (ws.map wD)), none, none, none, some (.int t), some (.int b), none, none, none, none, none, none, none] st = .ok (hD (cells0 m.cells)) st := fun st => callA_ok (ds := [mD m]) rfl (mD_pure m) (first_ok (by omega))
  have s1 : oSetD (.loc 0) (hD (cells0 m.cells)) (.int 1) [(true, D.dct [] [])] = some [(true, eD [(cells0 m.cells, 1)])] := by
    have hk := kOf_hD (h := cells0 m.cells) (Nat.le_trans cells0_dep (by decide))
    unfold oSetD
    simp only [List.getElem?_cons_zero, hk, List.length_nil]
    rw [if_pos (by omega)]
    rfl
  have d1 : zDct1 false (zCallA a_first_terms (zCons (zVar 0) zNil)) (zC (.int 1)) [some (mD m), some (.tup (p.map lD)), some (.tup [.int t, .int b]), some (.tup (ws.map wD)), none, none, none, some (.int t), some (.int b), none, none, none, none, none, none, none] [] = .ok (eD [(cells0 m.cells, 1)]) [(false, eD [(cells0 m.cells, 1)])] := by
    unfold zDct1
    rw [List.nil_append, c1, bind_ok, zC_s, bind_ok, List.length_nil, s1]
    rfl
  rw [rPar, sPar_s, zCons_s, d1]
  rfl
theorem pow_le9 {b : Int} (h : 1 ≤ b ∧ b ≤ 9) : ∀ n : Nat, n ≤ 7 → 1 ≤ b ^ n ∧ b ^ n ≤ 9 ^ n
  | 0, _ => by simp
  | n + 1, hn => by
    have ih := pow_le9 h n (by omega)
    rw [Int.pow_succ, Int.pow_succ]
    have h1 : 1 * 1 ≤ b ^ n * b := Int.mul_le_mul ih.1 h.1 (by decide) (by omega)
    have h2 : b ^ n * b ≤ 9 ^ n * 9 := Int.mul_le_mul ih.2 h.2 (by omega) (by
      have : (0 : Int) ≤ 9 ^ n := Int.pow_nonneg (by decide)
      exact this)
    omega
theorem fold_snd {t b : Int} : ∀ (p : List Ln) (s : Es × Int), (p.foldl (nextB t b) s).2 = s.2 * b ^ p.length
  | [], s => by simp
  | l :: p, s => by
    rw [List.foldl_cons, fold_snd p]
    simp only [nextB, List.length_cons]
    rw [Int.pow_succ, Int.mul_assoc, Int.mul_comm b]
theorem rLoop_ok {m : Mc} {p : List Ln} {t b : Int} {ws : List Wh} (h3 : m.cells ≤ 3) (ht : 0 ≤ t ∧ t ≤ b ∧ b ≤ 1000) (hp : ∀ l ∈ p, l.in m.cells) (hl : p.length ≤ 7) :
    ∃ x4 d y11 y12 y13 y14 y15 st', rLoop (VR m p t b ws none (some (eD [(cells0 m.cells, 1)])) 1 none none none none none) [(false, eD [(cells0 m.cells, 1)])] = .nx (VR m p t b ws x4 (some d) (p.foldl (nextB t b) ([(cells0 m.cells, 1)], 1)).2 y11 y12 y13 y14 y15) st' ∧ DV st' d (p.foldl (nextB t b) ([(cells0 m.cells, 1)], 1)).1 ∧
      (∀ e ∈ (p.foldl (nextB t b) ([(cells0 m.cells, 1)], 1)).1, e.1.length = m.cells ∧ dmax e.1 ≤ 8) ∧ (p.foldl (nextB t b) ([(cells0 m.cells, 1)], 1)).1.length ≤ 128 := by
  have fi := for_inv (T := lD) (g := gN 4) (b := sLine) (F := nextB t b)
      (I := fun r s v st => (∃ x4 d y11 y12 y13 y14 y15, v = VR m p t b ws x4 (some d) s.2 y11 y12 y13 y14 y15 ∧ DV st d s.1) ∧ (∀ e ∈ s.1, e.1.length = m.cells ∧ dmax e.1 + r.length ≤ 8) ∧ s.1.length * 2 ^ r.length ≤ 128 ∧ r.length ≤ 7 ∧ ∀ l ∈ r, l.in m.cells)
      (fun s l r vars st hh => ?_) p ([(cells0 m.cells, 1)], 1) (VR m p t b ws none (some (eD [(cells0 m.cells, 1)])) 1 none none none none none) [(false, eD [(cells0 m.cells, 1)])]
      ⟨⟨_, _, _, _, _, _, _, rfl, .inl rfl⟩, fun e he => by
        simp only [List.mem_singleton] at he
        subst he
        have := cells0_dep (n := m.cells)
        exact ⟨cells0_len, by simp only; omega⟩, by
        have : 2 ^ p.length ≤ 2 ^ 7 := Nat.pow_le_pow_right (by decide) hl
        simp only [List.length_cons, List.length_nil]
        omega, hl, hp⟩
  · obtain ⟨v2, st2, e2, ⟨x4, d, y11, y12, y13, y14, y15, rfl, g1⟩, g2, g3, _, _⟩ := fi
    refine ⟨x4, d, y11, y12, y13, y14, y15, st2, ?_, g1, fun e he => by simpa using g2 e he, by simpa using g3⟩
    exact e2
  · obtain ⟨⟨x4, d, y11, y12, y13, y14, y15, rfl, g1⟩, g2, g3, g4, g5⟩ := hh
    simp only [List.length_cons] at g2 g3 g4
    rw [Nat.pow_succ] at g3
    have p1 : 1 ≤ 2 ^ r.length := Nat.one_le_two_pow
    have small : s.1.length ≤ 128 := by
      have : s.1.length * 1 ≤ s.1.length * (2 ^ r.length * 2) := Nat.mul_le_mul_left _ (by omega)
      omega
    obtain ⟨d', z12, z13, z14, z15, st2, e2, k2⟩ := line_ok (m := m) (p := p) (t := t) (b := b) (ws := ws) (l := l) (x11 := y11) (x12 := y12) (x13 := y13) (x14 := y14) (x15 := y15) (whole := s.2) ht (by omega) (g5 l List.mem_cons_self) g1 (fun e he => ⟨(g2 e he).1, by have := (g2 e he).2; omega⟩) (by omega)
    refine ⟨VR m p t b ws (some (lD l)) (some d) s.2 y11 y12 y13 y14 y15, rfl, _, _, .inl e2, ⟨_, _, _, _, _, _, _, rfl, k2⟩, ?_, ?_, by omega, fun l hl => g5 l (List.mem_cons_of_mem _ hl)⟩
    · refine ev_line (es := s.1) (n := 0) (fun h => h.length = m.cells ∧ dmax h + r.length ≤ 8) (fun e he => ?_) [] (fun e he => by cases he)
      have q := g2 e he
      have sl := step_len e.1 l
      have sd := step_dep e.1 l
      exact ⟨⟨q.1, by omega⟩, ⟨sl.trans q.1, by omega⟩⟩
    · have fl := foldl_len (u := b - t) (t := t) (l := l) s.1 []
      simp only [List.length_nil, Nat.zero_add] at fl
      have : (s.1.foldl (stepE (b - t) t l) []).length * 2 ^ r.length ≤ (2 * s.1.length) * 2 ^ r.length := Nat.mul_le_mul_right _ fl
      have e : s.1.length * (2 ^ r.length * 2) = (2 * s.1.length) * 2 ^ r.length := by rw [Nat.mul_comm (2 ^ r.length) 2, ← Nat.mul_assoc, Nat.mul_comm s.1.length 2]
      show (s.1.foldl (stepE (b - t) t l) []).length * 2 ^ r.length ≤ 128
      omega
end Nk05

set_option Elab.async false
set_option linter.all false
set_option maxRecDepth 100000
set_option maxHeartbeats 2000000
namespace Nk05
open PySem PySem.Spec PyProof.Rows L2 Zl
abbrev VS (m : Mc) (p : List Ln) (t b : Int) (ws : List Wh) (x4 x5 x6 x9 : Option D) (whole : Int) (x11 x12 x13 x14 x15 : Option D) : Vars := [some (mD m), some (.tup (p.map lD)), some (.tup [.int t, .int b]), some (.tup (ws.map wD)), x4, x5, x6, some (.int t), some (.int b), x9, some (.int whole), x11, x12, x13, x14, x15]
theorem rSum_ok {m : Mc} {p : List Ln} {t b : Int} {ws : List Wh} {x4 y11 y12 y13 y14 y15 : Option D} {d : D} {es : Es} {whole : Int} {st : Sto} (hm : m ∈ machines) (W : WhOk m ws) (hd : DV st d es) (he : ∀ e ∈ es, e.1.length = m.cells ∧ dmax e.1 ≤ 8) (hn : es.length ≤ 128) :
    ∃ st', rSum (VR m p t b ws x4 (some d) whole y11 y12 y13 y14 y15) st = .nx (VS m p t b ws x4 (some (.int (good ws es))) none (some d) whole y11 y12 y13 y14 y15) st' := by
  have hz := sizeLine_val
  obtain ⟨st1, e1, _⟩ := items_ok (vars := VR m p t b ws x4 (some d) whole y11 y12 y13 y14 y15) (i := 9) rfl hd
  refine ⟨st1, ?_⟩
  have lc1 : zLcL (gT (gConsZ (gN 12) (gConsZ (gN 13) gNilZ))) (zUn oTru (zCallA a_fulfilled (zCons (zVar 12) (zCons (zVar 3) zNil)))) (zVar 13) (wipeD (VR m p t b ws x4 (some d) whole y11 y12 y13 y14 y15) [12, 13]) (es.map TE) st1 = .ok ((es.filter fun e => ful e.1 ws).map fun e => .int e.2) st1 := by
    refine lc_ifT fun e hh => ?_
    refine ⟨VR m p t b ws x4 (some d) whole y11 (some (hD e.1)) (some (.int e.2)) y14 y15, rfl, ?_, fun _ => rfl⟩
    have q := he e hh
    have c : zCallA a_fulfilled (zCons (zVar 12) (zCons (zVar 3) zNil)) (VR m p t b ws x4 (some d) whole y11 (some (hD e.1)) (some (.int e.2)) y14 y15) st1 = .ok (.bl (ful e.1 ws)) st1 := callA_ok (ds := [hD e.1, .tup (ws.map wD)]) rfl (pures2 (pure_hD _) (pure_ws _)) (fulfilled_ok hm W q.1 q.2)
    rw [zUn_s, c, bind_ok]
    rfl
  have lc := zLc_ok (own := [12, 13]) e1 lc1 (by
    have := List.length_filter_le (fun e => ful e.1 ws) es
    rw [List.length_map]
    omega)
  have sm : oSum [.lst ((es.filter fun e => ful e.1 ws).map fun e => .int e.2)] st1 = .ok (.int (good ws es)) st1 := by
    unfold oSum
    simp only [der_lst_s, intsD_map]
    rfl
  rw [rSum, sAsg_s, zApp_s, zCons_s, lc, bindL_ok, zNil_s, lbindL_ok, lbind_ok, qOpN_s, sm]
  rfl
theorem rEnd_ok {fu : Nat} {m : Mc} {p : List Ln} {t b : Int} {ws : List Wh} {x4 y11 y12 y13 y14 y15 : Option D} {d : D} {es : Es} {whole : Int} {st : Sto} (hm : m ∈ machines) (W : WhOk m ws) (hd : DV st d es) (he : ∀ e ∈ es, e.1.length = m.cells ∧ dmax e.1 ≤ 8) (hn : es.length ≤ 128) (hw : 1 ≤ whole ∧ whole ≤ 9 ^ 7) (hf : whole < fu) :
    ∃ st', rEnd fu (VR m p t b ws x4 (some d) whole y11 y12 y13 y14 y15) st = .ret (.tup [.int (good ws es / gcdL fu (good ws es) whole), .int (whole / gcdL fu (good ws es) whole)]) st' := by
  have hz := sizeLine_val
  obtain ⟨st1, e1⟩ := rSum_ok (p := p) (t := t) (b := b) (x4 := x4) (y11 := y11) (y12 := y12) (y13 := y13) (y14 := y14) (y15 := y15) (whole := whole) hm W hd he hn
  refine ⟨st1, ?_⟩
  obtain ⟨k, rfl⟩ : ∃ k, fu = k + 1 := ⟨fu - 1, by omega⟩
  have gb := gcdL_bd (n := k) (a := good ws es) (b := whole) (by omega)
  have n7 : (9 : Int) ^ 7 = 4782969 := by decide
  have c : zCallA (a_common (k + 1)) (zCons (zVar 5) (zCons (zVar 10) zNil)) (VS m p t b ws x4 (some (.int (good ws es))) none (some d) whole y11 y12 y13 y14 y15) st1 = .ok (.int (gcdL (k + 1) (good ws es) whole)) st1 := callA_ok (ds := [.int (good ws es), .int whole]) rfl rfl (common_ok (by omega) hf)
  have q : 0 < gcdL (k + 1) (good ws es) whole ∧ gcdL (k + 1) (good ws es) whole < 1073741824 := ⟨gb.1, by omega⟩
  have k2 : 2 ≤ sizeLine := by omega
  have a2 : sAsg (zCallA (a_common (k + 1)) (zCons (zVar 5) (zCons (zVar 10) zNil))) (gN 6) (VS m p t b ws x4 (some (.int (good ws es))) none (some d) whole y11 y12 y13 y14 y15) st1 = .nx (VS m p t b ws x4 (some (.int (good ws es))) (some (.int (gcdL (k + 1) (good ws es) whole))) (some d) whole y11 y12 y13 y14 y15) st1 := by
    rw [sAsg_s, c, bindS_ok]
    rfl
  rw [rEnd, sSeq_s, e1, sbind_nx, sSeq_s, a2, sbind_nx]
  generalize gcdL (k + 1) (good ws es) whole = gg at q
  simp only [sRet_s, zTup_s, zCons_s, zBin_s, zVar_s, VS, List.getElem?_cons_zero, List.getElem?_cons_succ, bind_ok, qOp_s, oDiv_s, if_pos q, quiet_ok, bindL_ok, zNil_s, lbindL_ok, lbind_ok, List.length_cons, List.length_nil, Nat.zero_add, Nat.reduceAdd, if_pos k2, bindS_ok]
def rcEs (m : Mc) (p : List Ln) (t b : Int) : Es := (p.foldl (nextB t b) ([(cells0 m.cells, 1)], 1)).1
theorem right_chance_ok {fu : Nat} {m : Mc} {p : List Ln} {t b : Int} {ws : List Wh} (hm : m ∈ machines) (hp : ∀ l ∈ p, l ∈ lines m) (hl : p.length ≤ 7) (ht : 0 ≤ t ∧ t ≤ b ∧ 1 ≤ b ∧ b ≤ 9) (W : WhOk m ws) (hf : 4782969 < fu) :
    a_right_chance fu [mD m, .tup (p.map lD), .tup [.int t, .int b], .tup (ws.map wD)] = .ok (.tup [.int (good ws (rcEs m p t b) / gcdL fu (good ws (rcEs m p t b)) (b ^ p.length)), .int (b ^ p.length / gcdL fu (good ws (rcEs m p t b)) (b ^ p.length))]) := by
  have e : a_right_chance fu [mD m, .tup (p.map lD), .tup [.int t, .int b], .tup (ws.map wD)] = toA (m_right_chance fu [some (mD m), some (.tup (p.map lD)), some (.tup [.int t, .int b]), some (.tup (ws.map wD)), none, none, none, none, none, none, none, none, none, none, none, none] []) := rfl
  have fine := List.all_eq_true.mp lines_fine m hm
  simp only [Bool.and_eq_true, decide_eq_true_eq, List.all_eq_true] at fine
  have pin : ∀ l ∈ p, l.in m.cells := fun l hl => Ln.ok_in (fine.1.1.1.1 l (hp l hl))
  have h3 := cells_le hm
  obtain ⟨x4, d, y11, y12, y13, y14, y15, st1, e1, g1, g2, g3⟩ := rLoop_ok (m := m) (p := p) (t := t) (b := b) (ws := ws) h3.2 ⟨ht.1, ht.2.1, by omega⟩ pin hl
  have pb := pow_le9 ht.2.2 p.length hl
  have pm : (9 : Int) ^ p.length ≤ 9 ^ 7 := by
    have : (9 : Nat) ^ p.length ≤ 9 ^ 7 := Nat.pow_le_pow_right (by decide) hl
    exact_mod_cast this
  have n7 : (9 : Int) ^ 7 = 4782969 := by decide
  have whole_eq : (p.foldl (nextB t b) ([(cells0 m.cells, 1)], 1)).2 = b ^ p.length := by rw [fold_snd, Int.one_mul]
  rw [whole_eq] at e1
  obtain ⟨st2, e2⟩ := rEnd_ok (fu := fu) (p := p) (t := t) (b := b) (x4 := x4) (y11 := y11) (y12 := y12) (y13 := y13) (y14 := y14) (y15 := y15) (whole := b ^ p.length) hm W g1 g2 g3 ⟨pb.1, by omega⟩ (by omega)
  have n1 : ∀ vars st, vars = [some (mD m), some (.tup (p.map lD)), some (.tup [.int t, .int b]), some (.tup (ws.map wD)), none, none, none, none, none, none, none, none, none, none, none, none] → sDrop (zCallA a_need_machine (zCons (zVar 0) zNil)) vars st = .nx vars st := fun vars st e => by
    subst e
    rw [sDrop_s, callA_ok (ds := [mD m]) (st1 := st) (d := .non) rfl (mD_pure m) (need_machine_ok hm)]
    rfl
  have n2 : ∀ vars st, vars = [some (mD m), some (.tup (p.map lD)), some (.tup [.int t, .int b]), some (.tup (ws.map wD)), none, none, none, none, none, none, none, none, none, none, none, none] → sDrop (zCallA a_need_program (zCons (zVar 0) (zCons (zVar 1) zNil))) vars st = .nx vars st := fun vars st e => by
    subst e
    rw [sDrop_s, callA_ok (ds := [mD m, .tup (p.map lD)]) (st1 := st) (d := .non) rfl (pures2 (mD_pure1 m) (pure_ls p)) (need_program_ok hm hp (by omega))]
    rfl
  have n3 : ∀ vars st, vars = [some (mD m), some (.tup (p.map lD)), some (.tup [.int t, .int b]), some (.tup (ws.map wD)), none, none, none, none, none, none, none, none, none, none, none, none] → sDrop (zCallA a_need_chance (zCons (zVar 2) zNil)) vars st = .nx vars st := fun vars st e => by
    subst e
    rw [sDrop_s, callA_ok (ds := [.tup [.int t, .int b]]) (st1 := st) (d := .non) rfl rfl (need_chance_ok ⟨ht.1, ht.2.1, ht.2.2.1, by omega⟩)]
    rfl
  have n4 : ∀ vars st, vars = [some (mD m), some (.tup (p.map lD)), some (.tup [.int t, .int b]), some (.tup (ws.map wD)), none, none, none, none, none, none, none, none, none, none, none, none] → sDrop (zCallA a_need_wishes (zCons (zVar 0) (zCons (zVar 3) zNil))) vars st = .nx vars st := fun vars st e => by
    subst e
    rw [sDrop_s, callA_ok (ds := [mD m, .tup (ws.map wD)]) (st1 := st) (d := .non) rfl (pures2 (mD_pure1 m) (pure_ws ws)) (need_wishes_ok hm W)]
    rfl
  have a5 : sAsg (zVar 2) (gT (gConsZ (gN 7) (gConsZ (gN 8) gNilZ))) [some (mD m), some (.tup (p.map lD)), some (.tup [.int t, .int b]), some (.tup (ws.map wD)), none, none, none, none, none, none, none, none, none, none, none, none] [] = .nx [some (mD m), some (.tup (p.map lD)), some (.tup [.int t, .int b]), some (.tup (ws.map wD)), none, none, none, some (.int t), some (.int b), none, none, none, none, none, none, none] [] := rfl
  rw [e, rc_eq, sSeq_s, n1 _ _ rfl, sbind_nx, sSeq_s, n2 _ _ rfl, sbind_nx, sSeq_s, n3 _ _ rfl, sbind_nx, sSeq_s, n4 _ _ rfl, sbind_nx, sSeq_s, a5, sbind_nx, sSeq_s, rPar_ok h3.2, sbind_nx, sSeq_s, e1, sbind_nx, e2]
  rfl
end Nk05

set_option Elab.async false
set_option linter.all false
set_option maxRecDepth 100000
set_option maxHeartbeats 2000000
namespace Nk05
open PySem PySem.Spec PyProof.Rows L2 Zl
/-! ### alike: a value and itself -/
def alk : Nat → D → Bool
  | 0, _ => false
  | _ + 1, .int _ => true
  | _ + 1, .bl _ => true
  | _ + 1, .non => true
  | n + 1, .tup ds => decide (ds.length ≤ 1000) && ds.all (alk n)
  | n + 1, .lst ds => decide (ds.length ≤ 1000) && ds.all (alk n)
  | _ + 1, _ => false
theorem pures_of : ∀ {ds : List D}, (∀ d ∈ ds, D.pure d = true) → D.pures ds = true
  | [], _ => rfl
  | d :: ds, h => by simp [D.pures, h d List.mem_cons_self, pures_of fun e he => h e (List.mem_cons_of_mem _ he)]
theorem alk_pure : ∀ {n : Nat} {d : D}, alk n d = true → D.pure d = true
  | 0, _, h => by simp [alk] at h
  | n + 1, d, h => by
    cases d with
    | tup ds => simp only [alk, Bool.and_eq_true, List.all_eq_true] at h; exact pures_of fun d hd => alk_pure (h.2 d hd)
    | lst ds => simp only [alk, Bool.and_eq_true, List.all_eq_true] at h; exact pures_of fun d hd => alk_pure (h.2 d hd)
    | loc n => simp [alk] at h
    | dct => simp [alk] at h
    | ins => simp [alk] at h
    | scr => simp [alk] at h
    | _ => rfl
theorem lc_none {g : ZG} {t f : ZE} {v0 : Vars} {st : Sto} : ∀ {ds : List D}, (∀ d ∈ ds, ∃ v1, g d v0 = some v1 ∧ t v1 st = .ok (.bl false) st) → zLcL g t f v0 ds st = .ok [] st
  | [], _ => rfl
  | d :: ds, h => by
    obtain ⟨v1, e1, e2⟩ := h d List.mem_cons_self
    have ih := lc_none (f := f) (ds := ds) fun b hb => h b (List.mem_cons_of_mem _ hb)
    unfold zLcL
    rw [e1]
    dsimp only
    rw [e2, tstL_ok, if_neg (by simp), ih]
theorem oEqB {neg : Bool} {i j : Bool} {st : Sto} : oEqD neg (.bl i) (.bl j) st = .ok (.bl (if neg then !decide (i = j) else decide (i = j))) st := eqBool.eq (by decide) trivial trivial
theorem oEqN {neg : Bool} {st : Sto} : oEqD neg .non .non st = .ok (.bl (!neg)) st := by cases neg <;> rfl
theorem oEqE {neg : Bool} {st : Sto} : oEqD neg (.lst []) (.lst []) st = .ok (.bl (!neg)) st := by cases neg <;> rfl
abbrev alkTest (r : FA) : ZE := zNot (zUn oTru (zCallA r (zCons (zBin (qOp oIx) (zVar 0) (zVar 2)) (zCons (zBin (qOp oIx) (zVar 1) (zVar 2)) zNil))))
abbrev alkSeq (r : FA) : ZS := (sSeq (sIf (zOr (zNot (zUn (oIsi pTL) (zVar 0))) (zBin (qOp (oEqD true)) (zUn (oIsi pLst) (zVar 0)) (zUn (oIsi pLst) (zVar 1)))) (sRet (zC (.bl false))) sNext)
      (sSeq (sIf (zBin (qOp (oEqD true)) (zApp (qOpN oLen) (zCons (zVar 0) zNil)) (zApp (qOpN oLen) (zCons (zVar 1) zNil))) (sRet (zC (.bl false))) sNext)
      (sRet (zBin (qOp (oEqD false)) (zLc false (zRng1 (zCons (zApp (qOpN oLen) (zCons (zVar 1) zNil)) zNil)) (gN 2) (alkTest r) (zVar 2) [2]) (zLst false zNil)))))
abbrev alkRest : ZS := (sSeq (sIf (zOr (zUn (oIsN false) (zVar 1)) (zUn (oIsi pStr) (zVar 1))) (sRet (zAnd (zBin (qOp (oEqD false)) (zVar 0) (zVar 1)) (zBin (qOp (oEqD false)) (zUn (oIsi pStr) (zVar 0)) (zUn (oIsi pStr) (zVar 1))))) sNext)
      (sRet (zAnd (zUn (oIsi pInt) (zVar 0)) (zAnd (zBin (qOp (oEqD false)) (zUn (oIsi pBool) (zVar 0)) (zUn (oIsi pBool) (zVar 1))) (zBin (qOp (oEqD false)) (zVar 0) (zVar 1))))))
theorem alike_eq (r : FA) : m_l_alike r = sSeq (sIf (zUn (oIsi pTL) (zVar 1)) (alkSeq r) sNext) alkRest := rfl
theorem rng_mem : ∀ {n : Nat} {lo : Int} {d : D}, d ∈ rng lo n → ∃ i : Nat, i < n ∧ d = .int (lo + i)
  | 0, _, d, h => by simp [rng] at h
  | n + 1, lo, d, h => by
    rcases List.mem_cons.mp h with rfl | h
    · exact ⟨0, by omega, by simp⟩
    · obtain ⟨i, hi, rfl⟩ := rng_mem h
      exact ⟨i + 1, by omega, by congr 1; omega⟩
theorem alkSeq_ok {r : FA} {d : D} {ds : List D} (hT : d = .tup ds ∨ d = .lst ds) (hl : ds.length ≤ 1000) (hp : ∀ x ∈ ds, D.pure x = true) (ih : ∀ x ∈ ds, r [x, x] = .ok (.bl true)) : alkSeq r [some d, some d, none] [] = .ret (.bl true) [] := by
  have hz := sizeLine_val
  have k0 : 0 ≤ sizeLine := Nat.zero_le _
  have tl : oIsi pTL d [] = .ok (.bl true) [] := by rcases hT with rfl | rfl <;> rfl
  have pl : ∃ q, oIsi pLst d [] = .ok (.bl q) [] := by rcases hT with rfl | rfl <;> exact ⟨_, rfl⟩
  obtain ⟨q, pl⟩ := pl
  have ol : oLen [d] ([] : Sto) = .ok (.int ds.length) [] := by
    rcases hT with rfl | rfl
    · exact oLen_tup (by omega)
    · exact oLen_lst (by omega)
  have ix : ∀ (i : Nat), i < ds.length → ∃ x ∈ ds, oIx d (.int (i : Int)) [] = .ok x [] := fun i hi => by
    refine ⟨ds[i], List.getElem_mem hi, ?_⟩
    rcases hT with rfl | rfl
    · unfold oIx; simp only [der_tup_s, atI_nat, List.getElem?_eq_getElem hi]
    · unfold oIx; simp only [der_lst_s, atI_nat, List.getElem?_eq_getElem hi]
  have it : zRng1 (zCons (zApp (qOpN oLen) (zCons (zVar 1) zNil)) zNil) [some d, some d, none] [] = .ok (rng 0 ds.length) [] := by
    refine rng1_of (ds := [.int (ds.length : Int)]) ?_ (rngs_cells (by omega))
    simp only [zCons_s, zApp_s, zVar_s, List.getElem?_cons_zero, List.getElem?_cons_succ, bindL_ok, zNil_s, lbindL_ok, lbind_ok, qOpN_s, ol, quiet_ok]
  have lc : zLc false (zRng1 (zCons (zApp (qOpN oLen) (zCons (zVar 1) zNil)) zNil)) (gN 2) (alkTest r) (zVar 2) [2] [some d, some d, none] [] = .ok (.lst []) [] := by
    refine zLc_ok it (lc_none fun e he => ?_) k0
    obtain ⟨i, hi, rfl⟩ := rng_mem he
    obtain ⟨x, hx, ex⟩ := ix i hi
    rw [Int.zero_add]
    refine ⟨[some d, some d, some (.int (i : Int))], rfl, ?_⟩
    have c : zCallA r (zCons (zBin (qOp oIx) (zVar 0) (zVar 2)) (zCons (zBin (qOp oIx) (zVar 1) (zVar 2)) zNil)) [some d, some d, some (.int (i : Int))] [] = .ok (.bl true) [] := by
      refine callA_ok (ds := [x, x]) ?_ (pures2 (hp x hx) (hp x hx)) (ih x hx)
      simp only [zCons_s, zBin_s, zVar_s, List.getElem?_cons_zero, List.getElem?_cons_succ, bind_ok, qOp_s, ex, quiet_ok, bindL_ok, zNil_s, lbindL_ok]
    rw [alkTest, zNot_s, zUn_s, c]
    rfl
  have b1 : (zOr (zNot (zUn (oIsi pTL) (zVar 0))) (zBin (qOp (oEqD true)) (zUn (oIsi pLst) (zVar 0)) (zUn (oIsi pLst) (zVar 1)))) [some d, some d, none] [] = .ok (.bl false) [] := by
    simp only [zOr_s, zNot_s, zUn_s, zVar_s, List.getElem?_cons_zero, List.getElem?_cons_succ, bind_ok, tl, tst_ok, Bool.not_true, Bool.false_eq_true, if_false, zBin_s, pl, qOp_s, oEqB, decide_true, if_true, quiet_ok]
  have b2 : (zBin (qOp (oEqD true)) (zApp (qOpN oLen) (zCons (zVar 0) zNil)) (zApp (qOpN oLen) (zCons (zVar 1) zNil))) [some d, some d, none] [] = .ok (.bl false) [] := by
    simp only [zBin_s, zApp_s, zCons_s, zVar_s, List.getElem?_cons_zero, List.getElem?_cons_succ, bindL_ok, zNil_s, lbindL_ok, lbind_ok, qOpN_s, ol, quiet_ok, bind_ok, qOp_s, oEqI, decide_true, Bool.not_true, if_true]
  rw [alkSeq, sSeq_s, sIf_s, b1, tstS_ok, if_neg (by simp), sNext_s, sbind_nx, sSeq_s, sIf_s, b2, tstS_ok, if_neg (by simp), sNext_s, sbind_nx, sRet_s, zBin_s, lc, bind_ok, zLst_s, zNil_s, lbind_ok, List.length_nil, if_pos k0, newD_f, bind_ok, qOp_s, oEqE]
  rfl
theorem alike_self : ∀ {n : Nat} {d : D}, alk n d = true → r_l_alike n [d, d] = .ok (.bl true)
  | 0, _, h => by simp [alk] at h
  | n + 1, d, h => by
    have e : r_l_alike (n + 1) [d, d] = toA (m_l_alike (r_l_alike n) [some d, some d, none] []) := rfl
    have sq : ∀ ds, (d = .tup ds ∨ d = .lst ds) → ds.length ≤ 1000 → (∀ x ∈ ds, alk n x = true) → r_l_alike (n + 1) [d, d] = .ok (.bl true) := fun ds hT hl ha => by
      have tl : oIsi pTL d [] = .ok (.bl true) [] := by rcases hT with rfl | rfl <;> rfl
      rw [e, alike_eq, sSeq_s, sIf_s]
      have b : zUn (oIsi pTL) (zVar 1) [some d, some d, none] [] = .ok (.bl true) [] := tl
      rw [b, tstS_ok, if_pos rfl, alkSeq_ok hT hl (fun x hx => alk_pure (ha x hx)) (fun x hx => alike_self (ha x hx))]
      rfl
    cases d with
    | tup ds =>
      simp only [alk, Bool.and_eq_true, List.all_eq_true, decide_eq_true_eq] at h
      exact sq ds (.inl rfl) h.1 h.2
    | lst ds =>
      simp only [alk, Bool.and_eq_true, List.all_eq_true, decide_eq_true_eq] at h
      exact sq ds (.inr rfl) h.1 h.2
    | int i =>
      rw [e, alike_eq]
      simp [zVar_s, oIsi, pTL, pInt, pBool, pStr, oIsN, dNon, oEqB, oEqI, toA, D.pure]
    | bl i =>
      rw [e, alike_eq]
      simp [zVar_s, oIsi, pTL, pInt, pBool, pStr, oIsN, dNon, oEqB, oEqI, toA, D.pure]
    | non =>
      rw [e, alike_eq]
      simp [zVar_s, oIsi, pTL, pInt, pBool, pStr, oIsN, dNon, oEqB, oEqI, oEqN, toA, D.pure]
    | loc n => simp [alk] at h
    | dct => simp [alk] at h
    | ins => simp [alk] at h
    | scr => simp [alk] at h
    | str => simp [alk] at h
    | fn => simp [alk] at h
/-! ### cells picked, some of them for sure -/
theorem lc_some2 {g : ZG} {t f : ZE} {v0 : Vars} {I : Sto → Prop} {F : Nat → D} {hi : Nat} {M : Nat → Prop}
    (k : ∀ (c : Nat) st, c < hi → I st → ∃ v1, g (.int (c : Int)) v0 = some v1 ∧ ∃ b st', t v1 st = .ok (.bl b) st' ∧ I st' ∧ (M c → b = true) ∧ f v1 st' = .ok (F c) st') :
    ∀ (n lo : Nat) (st : Sto), I st → lo + n ≤ hi → ∃ (cs : List Nat) (st' : Sto), zLcL g t f v0 (rng (lo : Int) n) st = .ok (cs.map F) st' ∧ I st' ∧ cs.Pairwise (· < ·) ∧ (∀ c ∈ cs, lo ≤ c ∧ c < lo + n) ∧ ∀ c, lo ≤ c → c < lo + n → M c → c ∈ cs
  | 0, lo, st, h, _ => ⟨[], st, rfl, h, List.Pairwise.nil, by simp, fun c h1 h2 => by omega⟩
  | n + 1, lo, st, h, hb => by
    obtain ⟨v1, e1, b, st1, e2, h1, hM, e3⟩ := k lo st (by omega) h
    obtain ⟨cs, st2, e4, h2, pw, hr, hm⟩ := lc_some2 k n (lo + 1) st1 h1 (by omega)
    have el : rng (lo : Int) (n + 1) = .int lo :: rng ((lo : Int) + 1) n := rfl
    have e4 : zLcL g t f v0 (rng ((lo : Int) + 1) n) st1 = .ok (cs.map F) st2 := e4
    rw [el]
    unfold zLcL
    rw [e1]
    cases b with
    | true =>
      refine ⟨lo :: cs, st2, by simp [e2, e3, e4], h2, List.pairwise_cons.mpr ⟨fun c hc => by have := hr c hc; omega, pw⟩, fun c hc => ?_, fun c a1 a2 a3 => ?_⟩
      · rcases List.mem_cons.mp hc with rfl | hc
        · omega
        · have := hr c hc; omega
      · by_cases q : c = lo
        · subst q; exact List.mem_cons_self
        · exact List.mem_cons_of_mem _ (hm c (by omega) (by omega) a3)
    | false =>
      refine ⟨cs, st2, by simp [e2, e4], h2, pw, fun c hc => by have := hr c hc; omega, fun c a1 a2 a3 => ?_⟩
      by_cases q : c = lo
      · subst q; have := hM a3; cases this
      · exact hm c (by omega) (by omega) a3
end Nk05

set_option Elab.async false
set_option linter.all false
set_option maxRecDepth 100000
set_option maxHeartbeats 2000000
namespace Nk05
open PySem PySem.Spec PyProof.Rows L2 Zl
/-! ### the law's own sum -/
def wgt (t u : Int) (S : List Nat) (n : Nat) : Int := (List.range n).foldl (fun s i => s * (if i ∈ S then t else u)) 1
def addS (m : Mc) (p : List Ln) (ws : List Wh) (t u : Int) (g : Int) (S : List Nat) : Int := if ful (ran m p S) ws = true then g + wgt t u S p.length else g
/-- the law's names: 1 row, 2 machine, 3 bottom, 4 losses, 7 program, 8 wishes, 9 held, 10 top, 11 good, 14 share, 15 at -/
abbrev VL (x0 : Option D) (m : Mc) (b : Int) (x4 x5 x6 : Option D) (p : List Ln) (ws : List Wh) (x9 : Option D) (t g : Int) (x12 x13 x14 x15 x16 x17 : Option D) : Vars :=
  [x0, some (.loc 0), some (mD m), some (.int b), x4, x5, x6, some (.tup (p.map lD)), some (.tup (ws.map wD)), x9, some (.int t), some (.int g), x12, x13, x14, x15, x16, x17]
abbrev lShare : ZS := (sFor (zRng1 (zCons (zApp (qOpN oLen) (zCons (zVar 7) zNil)) zNil)) (gN 15) (sAsg (zBin (qOp oMul) (zVar 14) (zIf (zBin (qOp (oInD false)) (zVar 15) (zVar 4)) (zVar 10) (zBin (qOp oSubI) (zVar 3) (zVar 10)))) (gN 14)))
theorem cMul_small {x w : Int} (h : -1000 ≤ w ∧ w ≤ 1000) : cMul x w = true := by
  simp only [cMul, decide_eq_true_eq]
  right
  have : (2 : Int) ^ 64 = 18446744073709551616 := by decide
  omega
theorem share_ok {x0 : Option D} {m : Mc} {b : Int} {S : List Nat} {x5 x6 : Option D} {p : List Ln} {ws : List Wh} {x9 : Option D} {t g : Int} {x12 x13 x15 x16 x17 : Option D} {st : Sto} (hl : p.length ≤ 1000) (ht : 0 ≤ t ∧ t ≤ b ∧ b ≤ 1000) :
    ∃ y15, lShare (VL x0 m b (some (sD S)) x5 x6 p ws x9 t g x12 x13 (some (.int 1)) x15 x16 x17) st = .nx (VL x0 m b (some (sD S)) x5 x6 p ws x9 t g x12 x13 (some (.int (wgt t (b - t) S p.length))) y15 x16 x17) st := by
  have hz := sizeLine_val
  have ol : oLen [.tup (p.map lD)] st = .ok (.int (p.length : Int)) st := by rw [oLen_tup (by simp; omega), List.length_map]
  have it : zRng1 (zCons (zApp (qOpN oLen) (zCons (zVar 7) zNil)) zNil) (VL x0 m b (some (sD S)) x5 x6 p ws x9 t g x12 x13 (some (.int 1)) x15 x16 x17) st = .ok (rng 0 p.length) st := by
    refine rng1_of (ds := [.int (p.length : Int)]) ?_ (rngs_cells hl)
    have v7 : (VL x0 m b (some (sD S)) x5 x6 p ws x9 t g x12 x13 (some (.int 1)) x15 x16 x17)[7]? = some (some (.tup (p.map lD))) := rfl
    simp only [zCons_s, zApp_s, zVar_s, v7, bindL_ok, zNil_s, lbindL_ok, lbind_ok, qOpN_s, ol, quiet_ok]
  have er : rng (0 : Int) p.length = (List.range p.length).map fun i : Nat => D.int (i : Int) := by
    have e := rng_map (n := p.length) (lo := 0)
    refine Eq.trans e ?_
    simp only [Nat.zero_add]
  have fi := for_inv (T := fun i : Nat => D.int (i : Int)) (g := gN 15) (b := sAsg (zBin (qOp oMul) (zVar 14) (zIf (zBin (qOp (oInD false)) (zVar 15) (zVar 4)) (zVar 10) (zBin (qOp oSubI) (zVar 3) (zVar 10)))) (gN 14)) (F := fun s i => s * (if i ∈ S then t else b - t))
      (I := fun r s v st' => st' = st ∧ ∃ y15, v = VL x0 m b (some (sD S)) x5 x6 p ws x9 t g x12 x13 (some (.int s)) y15 x16 x17)
      (fun s i r vars st' hh => ?_) (List.range p.length) 1 (VL x0 m b (some (sD S)) x5 x6 p ws x9 t g x12 x13 (some (.int 1)) x15 x16 x17) st ⟨rfl, _, rfl⟩
  · obtain ⟨v2, st2, e2, rfl, y15, rfl⟩ := fi
    refine ⟨y15, ?_⟩
    show (match zRng1 _ _ st2 with | .ok items st => zForL _ _ items _ st | .rz x st => .rz x _ st | .stuck => .stuck) = _
    rw [it]
    dsimp only
    rw [er]
    exact e2
  · obtain ⟨rfl, y15, rfl⟩ := hh
    refine ⟨VL x0 m b (some (sD S)) x5 x6 p ws x9 t g x12 x13 (some (.int s)) (some (.int (i : Int))) x16 x17, rfl, VL x0 m b (some (sD S)) x5 x6 p ws x9 t g x12 x13 (some (.int (s * (if i ∈ S then t else b - t)))) (some (.int (i : Int))) x16 x17, st', .inl ?_, rfl, _, rfl⟩
    have q := in_ok (k := i) (S := S) (neg := false) (st := st')
    by_cases h : i ∈ S
    · have cm := cMul_small (x := s) (w := t) (by omega)
      simp only [h, decide_true, Bool.false_eq_true, if_false] at q
      simp only [VL, sAsg_s, zBin_s, zVar_s, List.getElem?_cons_zero, List.getElem?_cons_succ, bind_ok, zIf_s, qOp_s, q, quiet_ok, tst_ok, if_true, oMul_s, cm, bindS_ok, gN_s, List.set_cons_zero, List.set_cons_succ, h]
    · have cm := cMul_small (x := s) (w := b - t) (by omega)
      simp only [h, decide_false, Bool.false_eq_true, if_false] at q
      simp only [VL, sAsg_s, zBin_s, zVar_s, List.getElem?_cons_zero, List.getElem?_cons_succ, bind_ok, zIf_s, qOp_s, q, quiet_ok, tst_ok, Bool.false_eq_true, if_false, oSubI_s, oMul_s, cm, if_true, bindS_ok, gN_s, List.set_cons_zero, List.set_cons_succ, h]
abbrev lBad : ZE := (zLc false (zIt (zVar 8)) (gT (gConsZ (gN 16) (gConsZ (gN 17) gNilZ))) (zBin (qOp (oEqD true)) (zBin (qOp oIx) (zVar 9) (zVar 16)) (zVar 17)) (zC (.int 1)) [16, 17])
theorem bad_ok {x0 : Option D} {m : Mc} {b : Int} {h : List Tm} {x4 x5 x6 : Option D} {p : List Ln} {ws : List Wh} {t g : Int} {x12 x13 x14 x15 x16 x17 : Option D} {st : Sto} (W : WhOk m ws) (H : h.length = m.cells) (hd : dmax h ≤ 8) (hn : ws.length ≤ 1000) :
    zBin (qOp (oEqD false)) lBad (zLst false zNil) (VL x0 m b x4 x5 x6 p ws (some (hD h)) t g x12 x13 x14 x15 x16 x17) st = .ok (.bl (ful h ws)) st := by
  have hz := sizeLine_val
  have k0 : 0 ≤ sizeLine := Nat.zero_le _
  have lc1 : zLcL (gT (gConsZ (gN 16) (gConsZ (gN 17) gNilZ))) (zBin (qOp (oEqD true)) (zBin (qOp oIx) (zVar 9) (zVar 16)) (zVar 17)) (zC (.int 1)) (VL x0 m b x4 x5 x6 p ws (some (hD h)) t g x12 x13 x14 x15 none none) (ws.map wD) st = .ok ((ws.filter fun w => !decide (h.getD w.1 (.c 0) = w.2)).map fun _ => D.int (1 : Int)) st := by
    refine lc_ifT fun w hw => ?_
    refine ⟨VL x0 m b x4 x5 x6 p ws (some (hD h)) t g x12 x13 x14 x15 (some (.int (w.1 : Int))) (some (tD w.2)), rfl, ?_, fun _ => rfl⟩
    have gg : oIx (hD h) (.int (w.1 : Int)) st = .ok (tD (h.getD w.1 (.c 0))) st := getH (H ▸ W.at_ w hw)
    have ee : oEqD true (tD (h.getD w.1 (.c 0))) (tD w.2) st = .ok (.bl (!decide (h.getD w.1 (.c 0) = w.2))) st := eqTm.eq (by decide) (Nat.le_trans (dep_le_dmax hd) (by decide)) (Nat.le_trans (W.dp w hw) (by decide))
    simp only [VL, zBin_s, zVar_s, List.getElem?_cons_zero, List.getElem?_cons_succ, bind_ok, qOp_s, gg, quiet_ok, ee]
  have it : zIt (zVar 8) (VL x0 m b x4 x5 x6 p ws (some (hD h)) t g x12 x13 x14 x15 x16 x17) st = .ok (ws.map wD) st := rfl
  have lc := zLc_ok (own := [16, 17]) it lc1 (by
    have := List.length_filter_le (fun w : Wh => !decide (h.getD w.1 (.c 0) = w.2)) ws
    rw [List.length_map]
    omega)
  have q := eqInt.lst.eq (a := (ws.filter fun w => !decide (h.getD w.1 (.c 0) = w.2)).map fun _ => (1 : Int)) (b := []) (by decide) (neg := false) (st := st) (fun _ _ => trivial) (fun _ _ => trivial)
  simp only [List.map_map, List.map_nil, Bool.false_eq_true, if_false] at q
  have e1 : ((fun i : Int => D.int i) ∘ fun _ : Wh => (1 : Int)) = fun _ => D.int 1 := rfl
  rw [e1] at q
  have e2 : decide ((ws.filter fun w => !decide (h.getD w.1 (.c 0) = w.2)).map (fun _ => (1 : Int)) = []) = ful h ws := by
    rw [Bool.eq_iff_iff, decide_eq_true_iff, List.map_eq_nil_iff, List.filter_eq_nil_iff, ful, List.all_eq_true]
    refine ⟨fun k w hw => ?_, fun k w hw => ?_⟩
    · have := k w hw
      simpa using this
    · have := k w hw
      simpa using this
  rw [e2] at q
  rw [zBin_s, lBad, lc, bind_ok, zLst_s, zNil_s, lbind_ok, List.length_nil, if_pos k0, newD_f, bind_ok, qOp_s, q]
  rfl
abbrev lBody : ZS := (sSeq (sAsg (zCallA a_l_ran (zCons (zVar 2) (zCons (zVar 7) (zCons (zVar 4) zNil)))) (gN 9))
      (sSeq (sIf (zUn (oIsN false) (zVar 9)) (sRet (zC (.bl true))) sNext)
      (sIf (zBin (qOp (oEqD false)) lBad (zLst false zNil)) (sSeq (sAsg (zC (.int 1)) (gN 14))
      (sSeq lShare
      (sAsg (zBin (qOp (oAdd false)) (zVar 11) (zVar 14)) (gN 11)))) sNext)))
theorem ran_len {m : Mc} {p : List Ln} {S : List Nat} : (ran m p S).length = m.cells := by
  have : ∀ (p : List Ln) (h : List Tm) (n : Nat), (foldE (ranF S) h n p).length = h.length := fun p => by
    induction p with
    | nil => intro h n; rfl
    | cons l p ih =>
      intro h n
      show (foldE (ranF S) (ranF S h n l) (n + 1) p).length = _
      rw [ih]
      unfold ranF
      split
      · rfl
      · exact step_len h l
  exact (this p _ 0).trans cells0_len
theorem ran_dmax {m : Mc} {p : List Ln} {S : List Nat} (hl : p.length ≤ 7) : dmax (ran m p S) ≤ 8 := by
  have := ran_dep (S := S) (p := p) (h := cells0 m.cells) (n := 0)
  have := cells0_dep (n := m.cells)
  unfold ran
  omega
theorem body_ok {x0 : Option D} {m : Mc} {b : Int} {S : List Nat} {x5 x6 : Option D} {p : List Ln} {ws : List Wh} {x9 : Option D} {t g : Int} {x12 x13 x14 x15 x16 x17 : Option D} {st : Sto} (h3 : 1 ≤ m.cells ∧ m.cells ≤ 3) (hp : ∀ l ∈ p, l.in m.cells) (hl : p.length ≤ 7) (ht : 0 ≤ t ∧ t ≤ b ∧ b ≤ 1000) (W : WhOk m ws) (hn : ws.length ≤ 1000) :
    ∃ y9 y14 y15, lBody (VL x0 m b (some (sD S)) x5 x6 p ws x9 t g x12 x13 x14 x15 x16 x17) st = .nx (VL x0 m b (some (sD S)) x5 x6 p ws y9 t (addS m p ws t (b - t) g S) x12 x13 y14 y15 x16 x17) st := by
  have c : zCallA a_l_ran (zCons (zVar 2) (zCons (zVar 7) (zCons (zVar 4) zNil))) (VL x0 m b (some (sD S)) x5 x6 p ws x9 t g x12 x13 x14 x15 x16 x17) st = .ok (hD (ran m p S)) st := callA_ok (ds := [mD m, .tup (p.map lD), sD S]) rfl (pures3 (mD_pure1 m) (pure_ls p) (pure_sD S)) (ran_ok h3.1 (by omega) hp hl)
  have a1 : sAsg (zCallA a_l_ran (zCons (zVar 2) (zCons (zVar 7) (zCons (zVar 4) zNil)))) (gN 9) (VL x0 m b (some (sD S)) x5 x6 p ws x9 t g x12 x13 x14 x15 x16 x17) st = .nx (VL x0 m b (some (sD S)) x5 x6 p ws (some (hD (ran m p S))) t g x12 x13 x14 x15 x16 x17) st := by
    rw [sAsg_s, c]
    rfl
  have a2 : (sIf (zUn (oIsN false) (zVar 9)) (sRet (zC (.bl true))) sNext) (VL x0 m b (some (sD S)) x5 x6 p ws (some (hD (ran m p S))) t g x12 x13 x14 x15 x16 x17) st = .nx (VL x0 m b (some (sD S)) x5 x6 p ws (some (hD (ran m p S))) t g x12 x13 x14 x15 x16 x17) st := rfl
  have bd := bad_ok (x0 := x0) (m := m) (b := b) (h := ran m p S) (x4 := some (sD S)) (x5 := x5) (x6 := x6) (p := p) (t := t) (g := g) (x12 := x12) (x13 := x13) (x14 := x14) (x15 := x15) (x16 := x16) (x17 := x17) (st := st) W ran_len (ran_dmax hl) hn
  by_cases q : ful (ran m p S) ws = true
  · obtain ⟨y15, e1⟩ := share_ok (x0 := x0) (m := m) (b := b) (S := S) (x5 := x5) (x6 := x6) (p := p) (ws := ws) (x9 := some (hD (ran m p S))) (t := t) (g := g) (x12 := x12) (x13 := x13) (x15 := x15) (x16 := x16) (x17 := x17) (st := st) (by omega) ht
    refine ⟨some (hD (ran m p S)), some (.int (wgt t (b - t) S p.length)), y15, ?_⟩
    have a3 : sAsg (zC (.int 1)) (gN 14) (VL x0 m b (some (sD S)) x5 x6 p ws (some (hD (ran m p S))) t g x12 x13 x14 x15 x16 x17) st = .nx (VL x0 m b (some (sD S)) x5 x6 p ws (some (hD (ran m p S))) t g x12 x13 (some (.int 1)) x15 x16 x17) st := rfl
    rw [lBody, sSeq_s, a1, sbind_nx, sSeq_s, a2, sbind_nx, sIf_s, bd, tstS_ok, if_pos q, sSeq_s, a3, sbind_nx, sSeq_s, e1, sbind_nx, addS, if_pos q]
    rfl
  · refine ⟨some (hD (ran m p S)), x14, x15, ?_⟩
    rw [lBody, sSeq_s, a1, sbind_nx, sSeq_s, a2, sbind_nx, sIf_s, bd, tstS_ok, if_neg q, addS, if_neg q]
    rfl
abbrev lMain : ZS := (sFor (zIt (zCallA a_l_every_loss (zCons (zApp (qOpN oLen) (zCons (zVar 7) zNil)) (zCons (zBin (qOp (oAdd false)) (zApp (qOpN oLen) (zCons (zVar 7) zNil)) (zC (.int 1))) zNil)))) (gN 4) lBody)
def lawGood (m : Mc) (p : List Ln) (ws : List Wh) (t b : Int) : Int := (subs p.length).foldl (addS m p ws t (b - t)) 0
theorem main_ok {x0 : Option D} {m : Mc} {b : Int} {x4 x5 x6 : Option D} {p : List Ln} {ws : List Wh} {x9 : Option D} {t : Int} {x12 x13 x14 x15 x16 x17 : Option D} {st : Sto} (h3 : 1 ≤ m.cells ∧ m.cells ≤ 3) (hp : ∀ l ∈ p, l.in m.cells) (hl : p.length ≤ 7) (ht : 0 ≤ t ∧ t ≤ b ∧ b ≤ 1000) (W : WhOk m ws) (hn : ws.length ≤ 1000) :
    ∃ y4 y9 y14 y15, lMain (VL x0 m b x4 x5 x6 p ws x9 t 0 x12 x13 x14 x15 x16 x17) st = .nx (VL x0 m b y4 x5 x6 p ws y9 t (lawGood m p ws t b) x12 x13 y14 y15 x16 x17) st := by
  have hz := sizeLine_val
  have ol : oLen [.tup (p.map lD)] st = .ok (.int (p.length : Int)) st := by rw [oLen_tup (by simp; omega), List.length_map]
  have c : zCallA a_l_every_loss (zCons (zApp (qOpN oLen) (zCons (zVar 7) zNil)) (zCons (zBin (qOp (oAdd false)) (zApp (qOpN oLen) (zCons (zVar 7) zNil)) (zC (.int 1))) zNil)) (VL x0 m b x4 x5 x6 p ws x9 t 0 x12 x13 x14 x15 x16 x17) st = .ok (.lst ((subs p.length).map sD)) st := by
    refine callA_ok (ds := [.int (p.length : Int), .int ((p.length : Int) + 1)]) ?_ rfl (loss_ok hl)
    have v7 : (VL x0 m b x4 x5 x6 p ws x9 t 0 x12 x13 x14 x15 x16 x17)[7]? = some (some (.tup (p.map lD))) := rfl
    simp only [zCons_s, zApp_s, zVar_s, v7, bindL_ok, zNil_s, lbindL_ok, lbind_ok, qOpN_s, ol, quiet_ok, zBin_s, bind_ok, zC_s, qOp_s, oAdd_s]
  have fi := for_inv (T := sD) (g := gN 4) (b := lBody) (F := addS m p ws t (b - t))
      (I := fun r g v st' => st' = st ∧ ∃ y4 y9 y14 y15, v = VL x0 m b y4 x5 x6 p ws y9 t g x12 x13 y14 y15 x16 x17)
      (fun g S r vars st' hh => ?_) (subs p.length) 0 (VL x0 m b x4 x5 x6 p ws x9 t 0 x12 x13 x14 x15 x16 x17) st ⟨rfl, _, _, _, _, rfl⟩
  · obtain ⟨v2, st2, e2, rfl, y4, y9, y14, y15, rfl⟩ := fi
    refine ⟨y4, y9, y14, y15, ?_⟩
    show (match zIt _ _ st2 with | .ok items st => zForL _ _ items _ st | .rz x st => .rz x _ st | .stuck => .stuck) = _
    rw [zIt_s, c]
    exact e2
  · obtain ⟨rfl, y4, y9, y14, y15, rfl⟩ := hh
    obtain ⟨z9, z14, z15, e⟩ := body_ok (x0 := x0) (m := m) (b := b) (S := S) (x5 := x5) (x6 := x6) (p := p) (ws := ws) (x9 := y9) (t := t) (g := g) (x12 := x12) (x13 := x13) (x14 := y14) (x15 := y15) (x16 := x16) (x17 := x17) (st := st') h3 hp hl ht W hn
    exact ⟨VL x0 m b (some (sD S)) x5 x6 p ws y9 t g x12 x13 y14 y15 x16 x17, rfl, _, _, .inl e, rfl, _, _, _, _, rfl⟩
end Nk05

set_option Elab.async false
set_option linter.all false
set_option maxRecDepth 100000
set_option maxHeartbeats 2000000
namespace Nk05
open PySem PySem.Spec PyProof.Rows L2 Zl
/-! ### the plain law: both sums are one -/
def Tl (u t : Int) (l : Ln) (φ : List Tm → Int) (h : List Tm) : Int := u * φ (step h l) + t * φ h
def ev (u t : Int) : List Ln → (List Tm → Int) → List Tm → Int
  | [], φ => φ
  | l :: p, φ => Tl u t l (ev u t p φ)
def sumE (φ : List Tm → Int) : Es → Int
  | [] => 0
  | e :: r => e.2 * φ e.1 + sumE φ r
theorem sum_put {φ : List Tm → Int} {h : List Tm} {x : Int} : ∀ es : Es, sumE φ (pute es h (gete es h + x)) = sumE φ es + x * φ h
  | [] => by simp [pute, gete, sumE]
  | e :: r => by
    have ih := sum_put (φ := φ) (h := h) (x := x) r
    unfold pute gete
    by_cases q : e.1 = h
    · rw [if_pos q, if_pos q]
      simp only [sumE]
      rw [q, Int.add_mul]
      omega
    · rw [if_neg q, if_neg q]
      simp only [sumE]
      rw [ih]
      omega
theorem sum_addw {φ : List Tm → Int} {h : List Tm} {x w : Int} {es : Es} : sumE φ (addw es h x w) = sumE φ es + x * w * φ h := by
  unfold addw
  by_cases q : w = 0
  · rw [if_pos q, q]; simp
  · rw [if_neg q, sum_put]
theorem sum_stepE {φ : List Tm → Int} {u t : Int} {l : Ln} {acc : Es} {e : List Tm × Int} : sumE φ (stepE u t l acc e) = sumE φ acc + e.2 * Tl u t l φ e.1 := by
  unfold stepE Tl
  rw [sum_addw, sum_addw, Int.mul_add, Int.mul_assoc, Int.mul_assoc]
  omega
theorem sum_fold {φ : List Tm → Int} {u t : Int} {l : Ln} : ∀ (es acc : Es), sumE φ (es.foldl (stepE u t l) acc) = sumE φ acc + sumE (Tl u t l φ) es
  | [], acc => by simp [sumE]
  | e :: r, acc => by
    rw [List.foldl_cons, sum_fold r, sum_stepE]
    simp only [sumE]
    omega
theorem sum_run {φ : List Tm → Int} {t b : Int} : ∀ (p : List Ln) (s : Es × Int), sumE φ (p.foldl (nextB t b) s).1 = sumE (ev (b - t) t p φ) s.1
  | [], s => rfl
  | l :: p, s => by
    rw [List.foldl_cons, sum_run p]
    simp only [nextB]
    rw [sum_fold]
    simp [sumE, ev]
theorem good_sum (ws : List Wh) : ∀ es : Es, good ws es = sumE (fun h => if ful h ws = true then 1 else 0) es
  | [] => rfl
  | e :: r => by
    have ih := good_sum ws r
    simp only [good] at ih ⊢
    simp only [sumE]
    by_cases q : ful e.1 ws = true
    · rw [List.filter_cons_of_pos (by simpa using q), if_pos q, List.map_cons, List.sum_cons, ih]
      simp
    · rw [List.filter_cons_of_neg (by simpa using q), if_neg q, ih]
      simp
theorem dp_side (m : Mc) (p : List Ln) (t b : Int) (ws : List Wh) : good ws (rcEs m p t b) = ev (b - t) t p (fun h => if ful h ws = true then 1 else 0) (cells0 m.cells) := by
  rw [good_sum, rcEs, sum_run]
  simp [sumE]
/-- the other side -/
theorem ev_app {u t : Int} {φ : List Tm → Int} {l : Ln} : ∀ p : List Ln, ev u t (p ++ [l]) φ = ev u t p (Tl u t l φ)
  | [] => rfl
  | k :: p => by
    rw [List.cons_append]
    simp only [ev]
    rw [ev_app p]
theorem foldE_app {α S : Type} {F : S → Nat → α → S} {a : α} : ∀ (l : List α) (s : S) (n : Nat), foldE F s n (l ++ [a]) = F (foldE F s n l) (n + l.length) a
  | [], s, n => rfl
  | b :: l, s, n => by
    show foldE F (F s n b) (n + 1) (l ++ [a]) = F (foldE F (F s n b) (n + 1) l) (n + (l.length + 1)) a
    rw [foldE_app l]
    congr 1
    omega
theorem foldE_more {S : List Nat} {k : Nat} : ∀ (p : List Ln) (h : List Tm) (n : Nat), n + p.length ≤ k → foldE (ranF (S ++ [k])) h n p = foldE (ranF S) h n p
  | [], _, _, _ => rfl
  | l :: p, h, n, hk => by
    simp only [List.length_cons] at hk
    show foldE _ (ranF (S ++ [k]) h n l) (n + 1) p = foldE _ (ranF S h n l) (n + 1) p
    have e : ranF (S ++ [k]) h n l = ranF S h n l := by
      unfold ranF
      have : (n ∈ S ++ [k]) = (n ∈ S) := by
        simp only [List.mem_append, List.mem_singleton, eq_iff_iff]
        exact ⟨fun h => h.elim id fun e => by omega, .inl⟩
      simp only [this]
    rw [e, foldE_more p _ _ (by omega)]
theorem subs_lt : ∀ {n : Nat} {S : List Nat}, S ∈ subs n → ∀ i ∈ S, i < n
  | 0, S, h, i, hi => by simp [subs] at h; subst h; cases hi
  | n + 1, S, h, i, hi => by
    rcases List.mem_append.mp h with h | h
    · have := subs_lt h i hi; omega
    · obtain ⟨S', h', rfl⟩ := List.mem_map.mp h
      rcases List.mem_append.mp hi with hi | hi
      · have := subs_lt h' i hi; omega
      · rw [List.mem_singleton.mp hi]; omega
theorem wgt_succ {t u : Int} {S : List Nat} {n : Nat} : wgt t u S (n + 1) = wgt t u S n * (if n ∈ S then t else u) := by
  unfold wgt
  rw [List.range_succ, List.foldl_append]
  rfl
theorem wgt_more {t u : Int} {S : List Nat} {k : Nat} : ∀ {n : Nat}, n ≤ k → wgt t u (S ++ [k]) n = wgt t u S n
  | 0, _ => rfl
  | n + 1, h => by
    rw [wgt_succ, wgt_succ, wgt_more (by omega)]
    have : (n ∈ S ++ [k]) = (n ∈ S) := by
      simp only [List.mem_append, List.mem_singleton, eq_iff_iff]
      exact ⟨fun h => h.elim id fun e => by omega, .inl⟩
    simp only [this]
def sumL {α : Type} (f : α → Int) : List α → Int
  | [] => 0
  | a :: l => f a + sumL f l
theorem sumL_app {α : Type} {f : α → Int} : ∀ a b : List α, sumL f (a ++ b) = sumL f a + sumL f b
  | [], b => by simp [sumL]
  | x :: a, b => by simp only [List.cons_append, sumL, sumL_app a b]; omega
theorem sumL_map {α β : Type} {f : β → Int} {g : α → β} : ∀ a : List α, sumL f (a.map g) = sumL (fun x => f (g x)) a
  | [] => rfl
  | x :: a => by simp only [List.map_cons, sumL, sumL_map a]
theorem sumL_congr {α : Type} {f g : α → Int} : ∀ {a : List α}, (∀ x ∈ a, f x = g x) → sumL f a = sumL g a
  | [], _ => rfl
  | x :: a, h => by simp only [sumL, h x List.mem_cons_self, sumL_congr fun y hy => h y (List.mem_cons_of_mem _ hy)]
theorem sumL_add {α : Type} {f g : α → Int} : ∀ a : List α, sumL f a + sumL g a = sumL (fun x => f x + g x) a
  | [] => rfl
  | x :: a => by have := sumL_add (f := f) (g := g) a; simp only [sumL]; omega
theorem law_ev {t u : Int} {h0 : List Tm} : ∀ (n : Nat) (p : List Ln) (φ : List Tm → Int), p.length = n → sumL (fun S => wgt t u S n * φ (foldE (ranF S) h0 0 p)) (subs n) = ev u t p φ h0
  | 0, p, φ, hn => by
    have : p = [] := List.eq_nil_of_length_eq_zero hn
    subst this
    simp [subs, sumL, wgt, foldE, ev]
  | n + 1, p, φ, hn => by
    obtain ⟨q, l, e⟩ := (List.eq_nil_or_concat p).resolve_left (fun h => by rw [h] at hn; cases hn)
    rw [List.concat_eq_append] at e
    subst e
    have qn : q.length = n := by simpa using hn
    rw [ev_app, ← law_ev n q (Tl u t l φ) qn]
    show sumL _ (subs n ++ (subs n).map (· ++ [n])) = _
    rw [sumL_app, sumL_map, sumL_add]
    refine sumL_congr fun S hS => ?_
    have lt := subs_lt hS
    have n1 : ¬ (n ∈ S) := fun h => by have := lt n h; omega
    have n2 : n ∈ S ++ [n] := by simp
    rw [wgt_succ, wgt_succ, wgt_more (Nat.le_refl n), if_neg n1, if_pos n2, foldE_app, foldE_app, foldE_more q h0 0 (by omega), qn, Nat.zero_add]
    have r1 : ranF S (foldE (ranF S) h0 0 q) n l = step (foldE (ranF S) h0 0 q) l := if_neg n1
    have r2 : ranF (S ++ [n]) (foldE (ranF S) h0 0 q) n l = foldE (ranF S) h0 0 q := if_pos n2
    rw [r1, r2]
    unfold Tl
    rw [Int.mul_add, Int.mul_assoc, Int.mul_assoc]
theorem addS_sum {m : Mc} {p : List Ln} {ws : List Wh} {t u : Int} : ∀ (L : List (List Nat)) (g : Int), L.foldl (addS m p ws t u) g = g + sumL (fun S => wgt t u S p.length * (if ful (ran m p S) ws = true then 1 else 0)) L
  | [], g => by simp [sumL]
  | S :: L, g => by
    rw [List.foldl_cons, addS_sum L]
    simp only [sumL]
    unfold addS
    split
    · simp; omega
    · simp
theorem law_side (m : Mc) (p : List Ln) (t b : Int) (ws : List Wh) : lawGood m p ws t b = ev (b - t) t p (fun h => if ful h ws = true then 1 else 0) (cells0 m.cells) := by
  unfold lawGood
  rw [addS_sum, Int.zero_add]
  exact law_ev p.length p (fun h => if ful h ws = true then 1 else 0) rfl
theorem both_sides (m : Mc) (p : List Ln) (t b : Int) (ws : List Wh) : good ws (rcEs m p t b) = lawGood m p ws t b := (dp_side m p t b ws).trans (law_side m p t b ws).symm
end Nk05

set_option Elab.async false
set_option linter.all false
set_option maxRecDepth 100000
set_option maxHeartbeats 2000000
namespace Nk05
open PySem PySem.Spec PyProof.Rows L2 Zl
abbrev L3 : ZS := (sPar 7 8 (zCons (zCallA a_l_tame (zCons (zVar 2) (zCons (zCallB b_l_program (zCons (zVar 1) (zCons (zVar 2) (zCons (zC (.int 7)) zNil)))) zNil))) (zCons (zCallB b_l_wishes (zCons (zVar 1) (zCons (zVar 2) zNil))) zNil)))
abbrev L4a : ZS := (sAsg (zCallA a_l_ran (zCons (zVar 2) (zCons (zVar 7) (zCons (zTup zNil) zNil)))) (gN 9))
abbrev L4t : ZE := (zOr (zBin (qOp (oEqD false)) (zCallB b_l_taken (zCons (zVar 1) (zCons (zC (.int 2)) zNil))) (zC (.int 0))) (zBin (qOp (oEqD false)) (zVar 16) (zC (.int 0))))
abbrev L4f : ZE := (zTup (zCons (zVar 16) (zCons (zBin (qOp oIx) (zVar 9) (zVar 16)) zNil)))
abbrev L4b : ZS := (sAsg (zApp (qOpN oTuple) (zCons (zLc false (zRng1 (zCons (zBin (qOp oIx) (zVar 2) (zC (.int 0))) zNil)) (gN 16) L4t L4f [16]) zNil)) (gN 8))
abbrev L4 : ZS := (sIf (zBin (qOp oGtI) (zCallB b_l_taken (zCons (zVar 1) (zCons (zC (.int 3)) zNil))) (zC (.int 0))) (sSeq L4a L4b) sNext)
abbrev L5 : ZS := (sAsg (zBin (qOp (oAdd false)) (zC (.int 1)) (zCallB b_l_taken (zCons (zVar 1) (zCons (zC (.int 9)) zNil)))) (gN 3))
abbrev L6 : ZS := (sPar 10 11 (zCons (zCallB b_l_taken (zCons (zVar 1) (zCons (zBin (qOp (oAdd false)) (zVar 3) (zC (.int 1))) zNil))) (zCons (zC (.int 0)) zNil)))
abbrev L9 : ZS := (sFor (zIt (zVar 7)) (gN 6) (sAsg (zBin (qOp oMul) (zVar 5) (zVar 3)) (gN 5)))
abbrev L11 (fu : Nat) : ZS := (zWh (zBin (qOp oGtI) (zVar 13) (zC (.int 0))) (sPar 12 13 (zCons (zVar 13) (zCons (zBin (qOp oModI) (zApp (qOpN oInt) (zCons (zVar 12) zNil)) (zVar 13)) zNil))) fu)
abbrev L12 (fu : Nat) : ZS := (sRet (zCallA a_l_alike (zCons (zCallA (a_right_chance fu) (zCons (zVar 2) (zCons (zVar 7) (zCons (zTup (zCons (zVar 10) (zCons (zVar 3) zNil))) (zCons (zVar 8) zNil))))) (zCons (zTup (zCons (zBin (qOp oDivI) (zVar 11) (zVar 12)) (zCons (zBin (qOp oDivI) (zVar 5) (zVar 12)) zNil))) zNil))))
theorem law_eq (fu : Nat) : m_law fu = sSeq (sAsg (zLst true (zCons (zVar 0) (zCons (zC (.int 0)) (zCons (zC (.int 905)) (zCons (zC (.int 0)) zNil))))) (gN 1)) (sSeq (sAsg (zCallB b_l_machine (zCons (zVar 1) zNil)) (gN 2)) (sSeq L3 (sSeq L4 (sSeq L5 (sSeq L6 (sSeq lMain (sSeq (sAsg (zC (.int 1)) (gN 5)) (sSeq L9 (sSeq (sPar 12 13 (zCons (zVar 11) (zCons (zVar 5) zNil))) (sSeq (L11 fu) (L12 fu))))))))))) := rfl
theorem tame_mem0 {l : Ln} : ∀ {p : List Ln} {s : List Tm × List Ln}, l ∈ (p.foldl tameF s).2 → l ∈ s.2 ∨ l ∈ p
  | [], _, h => .inl h
  | k :: p, s, h => by
    rcases tame_mem0 (p := p) h with h | h
    · unfold tameF at h
      split at h
      · rcases List.mem_append.mp h with h | h
        · exact .inl h
        · rw [List.mem_singleton.mp h]; exact .inr List.mem_cons_self
      · exact .inl h
    · exact .inr (List.mem_cons_of_mem _ h)
theorem tame_mem {m : Mc} {p : List Ln} {l : Ln} (h : l ∈ tame m p) : l ∈ p := (tame_mem0 h).resolve_left (fun h => by cases h)
abbrev V7 (x0 : Option D) (m : Mc) (p : List Ln) (ws : List Wh) (x9 : Option D) : Vars := [x0, some (.loc 0), some (mD m), none, none, none, none, some (.tup (p.map lD)), some (.tup (ws.map wD)), x9, none, none, none, none, none, none, none, none]
theorem L3_ok {x0 : Option D} {m : Mc} {ns : List Int} {i s b : Int} (hl : ns.length ≤ 63) (hi : 0 ≤ i) (hm : m ∈ machines) :
    ∃ (p : List Ln) (ws : List Wh) (i' s' b' : Int), L3 [x0, some (.loc 0), some (mD m), none, none, none, none, none, none, none, none, none, none, none, none, none, none, none] (row ns i s b) = .nx (V7 x0 m p ws none) (row ns i' s' b') ∧ p.length ≤ 7 ∧ (∀ l ∈ p, l ∈ lines m) ∧ WhOk m ws ∧ 0 ≤ i' := by
  have fine := List.all_eq_true.mp lines_fine m hm
  simp only [Bool.and_eq_true, decide_eq_true_eq, List.all_eq_true] at fine
  obtain ⟨⟨⟨⟨f1, f2⟩, f3⟩, f4⟩, f5⟩ := fine
  obtain ⟨p, i1, s1, b1, e1, pl, pm, g1⟩ := program_ok (m := m) (ns := ns) (i := i) (s := s) (b := b) (many := 7) hl hi hm (by decide)
  have pok : ∀ l ∈ p, Ln.ok m l = true := fun l hl => f1 l (pm l hl)
  have pin : ∀ l ∈ p, l.in m.cells := fun l hl => Ln.ok_in (pok l hl)
  obtain ⟨ws, i2, s2, b2, e2, W, g2⟩ := wishes_ok (m := m) (ns := ns) (s := s1) (b := b1) hl g1 hm
  have c1 : zCallA a_l_tame (zCons (zVar 2) (zCons (zCallB b_l_program (zCons (zVar 1) (zCons (zVar 2) (zCons (zC (.int 7)) zNil)))) zNil)) [x0, some (.loc 0), some (mD m), none, none, none, none, none, none, none, none, none, none, none, none, none, none, none] (row ns i s b) = .ok (.tup ((tame m p).map lD)) (row ns i1 s1 b1) := by
    refine callA_ok (ds := [mD m, .tup (p.map lD)]) ?_ (pures2 (mD_pure1 m) (pure_ls _)) (tame_ok f4 (by omega) pin (by omega))
    have e1 : b_l_program [.loc 0, mD m, .int 7] (row ns i s b) = .ok (.tup (p.map lD)) (row ns i1 s1 b1) := e1
    simp only [zCons_s, zVar_s, List.getElem?_cons_zero, List.getElem?_cons_succ, bindL_ok, zCallB_s, zC_s, zNil_s, lbindL_ok, lbind_ok, e1]
  have c2 : zCallB b_l_wishes (zCons (zVar 1) (zCons (zVar 2) zNil)) [x0, some (.loc 0), some (mD m), none, none, none, none, none, none, none, none, none, none, none, none, none, none, none] (row ns i1 s1 b1) = .ok (.tup (ws.map wD)) (row ns i2 s2 b2) := by
    simp only [zCallB_s, zCons_s, zVar_s, List.getElem?_cons_zero, List.getElem?_cons_succ, bindL_ok, zNil_s, lbindL_ok, lbind_ok, e2]
  refine ⟨tame m p, ws, i2, s2, b2, ?_, Nat.le_trans (tame_fine pok).2 pl, fun l hl => ?_, W, g2⟩
  · rw [L3, sPar_s, zCons_s, c1, bindL_ok, zCons_s, c2]
    rfl
  · exact pm l (tame_mem hl)
theorem taken_at {ns : List Int} {vars : Vars} {i s b k : Int} (hl : ns.length ≤ 63) (hi : 0 ≤ i) (hv : vars[1]? = some (some (.loc 0))) (h1 : 0 < k) (h2 : k < 1000) {f : ZE} (hf : ∀ st, f vars st = .ok (.int k) st) :
    ∃ v i' s' b', zCallB b_l_taken (zCons (zVar 1) (zCons f zNil)) vars (row ns i s b) = .ok (.int v) (row ns i' s' b') ∧ 0 ≤ v ∧ v < k ∧ 0 ≤ i' := by
  obtain ⟨v, i1, s1, b1, e1, v0, v1, g1⟩ := taken_ok (ns := ns) (i := i) (s := s) (b := b) (many := k) hl h1 (by omega) hi
  refine ⟨v, i1, s1, b1, ?_, v0, v1, g1⟩
  rw [zCallB_s, zCons_s, zVar_s, hv]
  dsimp only
  rw [bindL_ok, zCons_s, hf, bindL_ok, zNil_s, lbindL_ok, lbindL_ok, lbind_ok, e1]
theorem L4_pick {x0 x8 : Option D} {m : Mc} {p : List Ln} {h : List Tm} {ns : List Int} (hl : ns.length ≤ 63) (H : HOkk m h) (c : Nat) (st : Sto) (hc : c < m.cells) (R : RowI ns st) : ∃ v1, gN 16 (.int (c : Int)) [x0, some (.loc 0), some (mD m), none, none, none, none, some (.tup (p.map lD)), x8, some (hD h), none, none, none, none, none, none, none, none] = some v1 ∧ ∃ b st', L4t v1 st = .ok (.bl b) st' ∧ RowI ns st' ∧ (c = 0 → b = true) ∧ L4f v1 st' = .ok (wD (c, h.getD c (.c 0))) st' := by
  have hz := sizeLine_val
  have k2 : 2 ≤ sizeLine := by omega
  obtain ⟨i, s, b, e, g⟩ := R
  subst e
  obtain ⟨v, i1, s1, b1, e1, v0, v1, g1⟩ := taken_at (vars := [x0, some (.loc 0), some (mD m), none, none, none, none, some (.tup (p.map lD)), x8, some (hD h), none, none, none, none, none, none, some (.int (c : Int)), none]) (s := s) (b := b) (k := 2) hl g rfl (by decide) (by decide) (f := zC (.int 2)) (fun _ => rfl)
  refine ⟨_, rfl, decide (v = 0) || decide ((c : Int) = 0), row ns i1 s1 b1, ?_, ⟨i1, s1, b1, rfl, g1⟩, ?_, ?_⟩
  · simp only [List.set_cons_zero, List.set_cons_succ]
    rw [L4t, zOr_s, zBin_s, e1, bind_ok, zC_s, bind_ok, qOp_s, oEqI, quiet_ok]
    by_cases q : v = 0
    · simp [q]
    · simp [q, zVar_s, oEqI]
  · intro e; subst e; simp
  · have gh := getH (h := h) (i := c) (st := row ns i1 s1 b1) (H.len ▸ hc)
    simp only [L4f, List.set_cons_zero, List.set_cons_succ, zTup_s, zCons_s, zVar_s, List.getElem?_cons_zero, List.getElem?_cons_succ, bindL_ok, zBin_s, bind_ok, qOp_s, gh, quiet_ok, zNil_s, lbindL_ok, lbind_ok, List.length_cons, List.length_nil, Nat.zero_add, Nat.reduceAdd, if_pos k2, wD]
theorem L4b_ok {x0 x8 : Option D} {m : Mc} {p : List Ln} {h : List Tm} {ns : List Int} {i s b : Int} (hl : ns.length ≤ 63) (hi : 0 ≤ i) (h3 : 1 ≤ m.cells ∧ m.cells ≤ 3) (H : HOkk m h) (hd : dmax h ≤ 8) :
    ∃ (ws : List Wh) (i' s' b' : Int), L4b [x0, some (.loc 0), some (mD m), none, none, none, none, some (.tup (p.map lD)), x8, some (hD h), none, none, none, none, none, none, none, none] (row ns i s b) = .nx (V7 x0 m p ws (some (hD h))) (row ns i' s' b') ∧ WhOk m ws ∧ 0 ≤ i' := by
  have hz := sizeLine_val
  obtain ⟨cs, st', e2, ⟨i2, s2, b2, rfl, g2⟩, hp, hc, hM⟩ := lc_some2 (F := fun c => wD (c, h.getD c (.c 0))) (hi := m.cells) (M := fun c => c = 0) (fun c st hc R => L4_pick (x0 := x0) (x8 := x8) (m := m) (p := p) hl H c st hc R) m.cells 0 (row ns i s b) ⟨i, s, b, rfl, hi⟩ (by omega)
  have e3 : ((0 : Nat) : Int) = 0 := rfl
  rw [e3] at e2
  have hlen : (cs.map fun c => wD (c, h.getD c (.c 0))).length ≤ sizeLine := by
    have := pw_len hp hc
    rw [List.length_map]
    omega
  have lc := zLc_ok (own := [16]) (row_it (vars := [x0, some (.loc 0), some (mD m), none, none, none, none, some (.tup (p.map lD)), x8, some (hD h), none, none, none, none, none, none, none, none]) (m := m) (k := 2) rfl h3.2) e2 hlen
  have ne : cs ≠ [] := fun e => by
    have := hM 0 (by omega) (by omega) rfl
    rw [e] at this
    cases this
  refine ⟨cs.map fun c => (c, h.getD c (.c 0)), i2, s2, b2, ?_, whOk_of H hd ne hp (fun c h => by have := hc c h; omega), g2⟩
  rw [L4b, sAsg_s, zApp_s, zCons_s, lc, bindL_ok, zNil_s, lbindL_ok, lbind_ok, qOpN_s, oTuple_lst, quiet_ok, bindS_ok]
  have e0 : cs.map (fun c => wD (c, h.getD c (.c 0))) = (cs.map fun c => ((c, h.getD c (.c 0)) : Wh)).map wD := by rw [List.map_map]; rfl
  rw [e0]
  rfl
theorem L4_ok {x0 : Option D} {m : Mc} {p : List Ln} {ws : List Wh} {ns : List Int} {i s b : Int} (hl : ns.length ≤ 63) (hi : 0 ≤ i) (hm : m ∈ machines) (hp : ∀ l ∈ p, l ∈ lines m) (pl : p.length ≤ 7) (W : WhOk m ws) :
    ∃ (ws' : List Wh) (x9 : Option D) (i' s' b' : Int), L4 (V7 x0 m p ws none) (row ns i s b) = .nx (V7 x0 m p ws' x9) (row ns i' s' b') ∧ WhOk m ws' ∧ 0 ≤ i' := by
  have hz := sizeLine_val
  have k0 : 0 ≤ sizeLine := Nat.zero_le _
  have fine := List.all_eq_true.mp lines_fine m hm
  simp only [Bool.and_eq_true, decide_eq_true_eq, List.all_eq_true] at fine
  obtain ⟨⟨⟨⟨f1, f2⟩, f3⟩, f4⟩, f5⟩ := fine
  have pok : ∀ l ∈ p, Ln.ok m l = true := fun l hl => f1 l (hp l hl)
  have pin : ∀ l ∈ p, l.in m.cells := fun l hl => Ln.ok_in (pok l hl)
  obtain ⟨v, i1, s1, b1, e1, v0, v1, g1⟩ := taken_at (vars := V7 x0 m p ws none) (s := s) (b := b) (k := 3) hl hi rfl (by decide) (by decide) (f := zC (.int 3)) (fun _ => rfl)
  have t1 : (zBin (qOp oGtI) (zCallB b_l_taken (zCons (zVar 1) (zCons (zC (.int 3)) zNil))) (zC (.int 0))) (V7 x0 m p ws none) (row ns i s b) = .ok (.bl (decide (0 < v))) (row ns i1 s1 b1) := by
    rw [zBin_s, e1, bind_ok, zC_s, bind_ok, qOp_s, oGtI_s, quiet_ok]
  rw [L4, sIf_s, t1, tstS_ok]
  by_cases hv : 0 < v
  · rw [if_pos (decide_eq_true hv)]
    have c2 : zCallA a_l_ran (zCons (zVar 2) (zCons (zVar 7) (zCons (zTup zNil) zNil))) (V7 x0 m p ws none) (row ns i1 s1 b1) = .ok (hD (ran m p [])) (row ns i1 s1 b1) := by
      refine callA_ok (ds := [mD m, .tup (p.map lD), sD []]) ?_ (pures3 (mD_pure1 m) (pure_ls _) (pure_sD [])) (ran_ok f4 (by omega) pin pl)
      simp only [zCons_s, V7, zVar_s, List.getElem?_cons_zero, List.getElem?_cons_succ, bindL_ok, zTup_s, zNil_s, lbindL_ok, lbind_ok, List.length_nil, if_pos k0, sD, List.map_nil]
    obtain ⟨ws', i2, s2, b2, e2, W', g2⟩ := L4b_ok (x0 := x0) (x8 := some (.tup (ws.map wD))) (p := p) (h := ran m p []) (s := s1) (b := b1) hl g1 ⟨f4, f5⟩ (ran_fine cells0_ok pok) (ran_dmax pl)
    refine ⟨ws', some (hD (ran m p [])), i2, s2, b2, ?_, W', g2⟩
    have a : L4a (V7 x0 m p ws none) (row ns i1 s1 b1) = .nx [x0, some (.loc 0), some (mD m), none, none, none, none, some (.tup (p.map lD)), some (.tup (ws.map wD)), some (hD (ran m p [])), none, none, none, none, none, none, none, none] (row ns i1 s1 b1) := by
      rw [L4a, sAsg_s, c2, bindS_ok]
      rfl
    rw [sSeq_s, a, sbind_nx, e2]
  · rw [if_neg (by simp [hv])]
    exact ⟨ws, none, i1, s1, b1, sNext_s, W, g1⟩
theorem whs_len {m : Mc} {ws : List Wh} (W : WhOk m ws) (h3 : m.cells ≤ 3) : ws.length ≤ 1000 := by
  have p : (ws.map (·.1)).Pairwise (· < ·) := by rw [List.pairwise_map]; exact W.up
  have := pw_len (lo := 0) (n := m.cells) p fun c hc => by
    obtain ⟨w, hw, rfl⟩ := List.mem_map.mp hc
    have := W.at_ w hw
    omega
  rw [List.length_map] at this
  omega
theorem L9_ok {x0 : Option D} {m : Mc} {b : Int} {x4 x6 : Option D} {p : List Ln} {ws : List Wh} {x9 : Option D} {t g : Int} {x12 x13 x14 x15 x16 x17 : Option D} {st : Sto} (hb : 0 ≤ b ∧ b ≤ 1000) :
    ∃ y6, L9 (VL x0 m b x4 (some (.int 1)) x6 p ws x9 t g x12 x13 x14 x15 x16 x17) st = .nx (VL x0 m b x4 (some (.int (b ^ p.length))) y6 p ws x9 t g x12 x13 x14 x15 x16 x17) st := by
  have fi := for_inv (T := lD) (g := gN 6) (b := (sAsg (zBin (qOp oMul) (zVar 5) (zVar 3)) (gN 5))) (F := fun (s : Int) (_ : Ln) => s * b)
      (I := fun r s v st' => st' = st ∧ ∃ y6, v = VL x0 m b x4 (some (.int s)) y6 p ws x9 t g x12 x13 x14 x15 x16 x17)
      (fun s l r vars st' hh => ?_) p 1 (VL x0 m b x4 (some (.int 1)) x6 p ws x9 t g x12 x13 x14 x15 x16 x17) st ⟨rfl, _, rfl⟩
  · obtain ⟨v2, st2, e2, rfl, y6, rfl⟩ := fi
    refine ⟨y6, ?_⟩
    have pw : ∀ (p : List Ln) (s : Int), p.foldl (fun (s : Int) (_ : Ln) => s * b) s = s * b ^ p.length := fun p => by
      induction p with
      | nil => intro s; simp
      | cons l p ih => intro s; rw [List.foldl_cons, ih, List.length_cons, Int.pow_succ, Int.mul_assoc, Int.mul_comm b]
    rw [pw, Int.one_mul] at e2
    exact e2
  · obtain ⟨rfl, y6, rfl⟩ := hh
    have cm := cMul_small (x := s) (w := b) (by omega)
    refine ⟨VL x0 m b x4 (some (.int s)) (some (lD l)) p ws x9 t g x12 x13 x14 x15 x16 x17, rfl, VL x0 m b x4 (some (.int (s * b))) (some (lD l)) p ws x9 t g x12 x13 x14 x15 x16 x17, st', .inl ?_, rfl, _, rfl⟩
    simp only [VL, sAsg_s, zBin_s, zVar_s, List.getElem?_cons_zero, List.getElem?_cons_succ, bind_ok, qOp_s, oMul_s, cm, if_true, quiet_ok, bindS_ok, gN_s, List.set_cons_zero, List.set_cons_succ]
theorem L11_ok {fu : Nat} {x0 : Option D} {m : Mc} {b : Int} {x4 x5 x6 : Option D} {p : List Ln} {ws : List Wh} {x9 : Option D} {t g : Int} {a c : Int} {x14 x15 x16 x17 : Option D} {st : Sto} (h : 0 ≤ c) (hf : c < fu) :
    L11 fu (VL x0 m b x4 x5 x6 p ws x9 t g (some (.int a)) (some (.int c)) x14 x15 x16 x17) st = .nx (VL x0 m b x4 x5 x6 p ws x9 t g (some (.int (gcdL fu a c))) (some (.int 0)) x14 x15 x16 x17) st :=
  wh_gcd (V := fun a c => VL x0 m b x4 x5 x6 p ws x9 t g (some (.int a)) (some (.int c)) x14 x15 x16 x17)
    (fun a c h => by
      have q : decide ((0 : Int) < c) = decide (c ≠ 0) := by rw [Bool.eq_iff_iff]; simp; omega
      simp only [VL, zBin_s, zVar_s, List.getElem?_cons_zero, List.getElem?_cons_succ, bind_ok, zC_s, qOp_s, oGtI_s, quiet_ok, q])
    (fun a c h => by simp only [VL, sPar_s, zCons_s, zVar_s, List.getElem?_cons_zero, List.getElem?_cons_succ, bindL_ok, zBin_s, zApp_s, zNil_s, lbindL_ok, lbind_ok, qOpN_s, oInt_s, bind_ok, qOp_s, oMod_s, if_pos h, quiet_ok, List.set_cons_zero, List.set_cons_succ]) fu a c h hf
end Nk05

set_option Elab.async false
set_option linter.all false
set_option maxRecDepth 100000
set_option maxHeartbeats 2000000
namespace Nk05
open PySem PySem.Spec PyProof.Rows L2 Zl
theorem L12_ok {fu : Nat} {x0 : Option D} {m : Mc} {b : Int} {x4 x6 : Option D} {p : List Ln} {ws : List Wh} {x9 : Option D} {t : Int} {x13 x14 x15 x16 x17 : Option D} {st : Sto} (hm : m ∈ machines) (hp : ∀ l ∈ p, l ∈ lines m) (hl : p.length ≤ 7) (ht : 0 ≤ t ∧ t ≤ b ∧ 1 ≤ b ∧ b ≤ 9) (W : WhOk m ws) (hf : 4782969 < fu) :
    L12 fu (VL x0 m b x4 (some (.int (b ^ p.length))) x6 p ws x9 t (lawGood m p ws t b) (some (.int (gcdL fu (lawGood m p ws t b) (b ^ p.length)))) x13 x14 x15 x16 x17) st = .ret (.bl true) st := by
  have hz := sizeLine_val
  have k2 : 2 ≤ sizeLine := by omega
  have pb := pow_le9 ht.2.2 p.length hl
  have pm : (9 : Int) ^ p.length ≤ 9 ^ 7 := by
    have : (9 : Nat) ^ p.length ≤ 9 ^ 7 := Nat.pow_le_pow_right (by decide) hl
    exact_mod_cast this
  have n7 : (9 : Int) ^ 7 = 4782969 := by decide
  obtain ⟨k, rfl⟩ : ∃ k, fu = k + 1 := ⟨fu - 1, by omega⟩
  have gb := gcdL_bd (n := k) (a := lawGood m p ws t b) (b := b ^ p.length) (by omega)
  have q : 0 < gcdL (k + 1) (lawGood m p ws t b) (b ^ p.length) ∧ gcdL (k + 1) (lawGood m p ws t b) (b ^ p.length) < 1073741824 := ⟨gb.1, by omega⟩
  have rc := right_chance_ok (fu := k + 1) hm hp hl ht W hf
  rw [both_sides] at rc
  generalize hgg : gcdL (k + 1) (lawGood m p ws t b) (b ^ p.length) = gg at q rc
  generalize hw : b ^ p.length = w at rc
  generalize hgo : lawGood m p ws t b = go at rc
  have c1 : zCallA (a_right_chance (k + 1)) (zCons (zVar 2) (zCons (zVar 7) (zCons (zTup (zCons (zVar 10) (zCons (zVar 3) zNil))) (zCons (zVar 8) zNil)))) (VL x0 m b x4 (some (.int w)) x6 p ws x9 t go (some (.int gg)) x13 x14 x15 x16 x17) st = .ok (.tup [.int (go / gg), .int (w / gg)]) st := by
    refine callA_ok (ds := [mD m, .tup (p.map lD), .tup [.int t, .int b], .tup (ws.map wD)]) ?_ ?_ rc
    · simp only [VL, zCons_s, zVar_s, List.getElem?_cons_zero, List.getElem?_cons_succ, bindL_ok, zTup_s, zNil_s, lbindL_ok, lbind_ok, List.length_cons, List.length_nil, Nat.zero_add, Nat.reduceAdd, if_pos k2]
    · have h1 := mD_pure1 m
      have h2 := pure_ls p
      have h3 := pure_ws ws
      simp only [D.pures, h1, h2, h3, Bool.and_true, Bool.true_and]
      rfl
  have c2 : zTup (zCons (zBin (qOp oDivI) (zVar 11) (zVar 12)) (zCons (zBin (qOp oDivI) (zVar 5) (zVar 12)) zNil)) (VL x0 m b x4 (some (.int w)) x6 p ws x9 t go (some (.int gg)) x13 x14 x15 x16 x17) st = .ok (.tup [.int (go / gg), .int (w / gg)]) st := by
    simp only [VL, zTup_s, zCons_s, zBin_s, zVar_s, List.getElem?_cons_zero, List.getElem?_cons_succ, bind_ok, qOp_s, oDiv_s, if_pos q, quiet_ok, bindL_ok, zNil_s, lbindL_ok, lbind_ok, List.length_cons, List.length_nil, Nat.zero_add, Nat.reduceAdd, if_pos k2]
  have c3 : zCallA a_l_alike (zCons (zCallA (a_right_chance (k + 1)) (zCons (zVar 2) (zCons (zVar 7) (zCons (zTup (zCons (zVar 10) (zCons (zVar 3) zNil))) (zCons (zVar 8) zNil))))) (zCons (zTup (zCons (zBin (qOp oDivI) (zVar 11) (zVar 12)) (zCons (zBin (qOp oDivI) (zVar 5) (zVar 12)) zNil))) zNil)) (VL x0 m b x4 (some (.int w)) x6 p ws x9 t go (some (.int gg)) x13 x14 x15 x16 x17) st = .ok (.bl true) st := by
    refine callA_ok (ds := [.tup [.int (go / gg), .int (w / gg)], .tup [.int (go / gg), .int (w / gg)]]) ?_ rfl (alike_self (n := 4) rfl)
    rw [zCons_s, c1, bindL_ok, zCons_s, c2, bindL_ok, zNil_s, lbindL_ok, lbindL_ok]
  rw [L12, sRet_s, c3, bindS_ok]
theorem law_ok {fu : Nat} (hf : 4782969 < fu) (ns : List Int) (hl : ns.length ≤ 63) : a_law fu [.scr (ns.map D.int)] = .ok (.bl true) := by
  have hz := sizeLine_val
  have k4 : 4 ≤ sizeLine := by omega
  have e : a_law fu [.scr (ns.map D.int)] = toA (m_law fu [some (.scr (ns.map D.int)), none, none, none, none, none, none, none, none, none, none, none, none, none, none, none, none, none] []) := rfl
  have a1 : sAsg (zLst true (zCons (zVar 0) (zCons (zC (.int 0)) (zCons (zC (.int 905)) (zCons (zC (.int 0)) zNil))))) (gN 1) [some (.scr (ns.map D.int)), none, none, none, none, none, none, none, none, none, none, none, none, none, none, none, none, none] [] = .nx [some (.scr (ns.map D.int)), some (.loc 0), none, none, none, none, none, none, none, none, none, none, none, none, none, none, none, none] (row ns 0 905 0) := by
    simp only [sAsg_s, zLst_s, zCons_s, zVar_s, List.getElem?_cons_zero, bindL_ok, zC_s, zNil_s, lbindL_ok, lbind_ok, List.length_cons, List.length_nil, Nat.zero_add, Nat.reduceAdd, if_pos k4]
    rfl
  obtain ⟨m, i1, s1, b1, e1, hm, g1⟩ := machine_ok (ns := ns) (i := 0) (s := 905) (b := 0) hl (by decide)
  have a2 : sAsg (zCallB b_l_machine (zCons (zVar 1) zNil)) (gN 2) [some (.scr (ns.map D.int)), some (.loc 0), none, none, none, none, none, none, none, none, none, none, none, none, none, none, none, none] (row ns 0 905 0) = .nx [some (.scr (ns.map D.int)), some (.loc 0), some (mD m), none, none, none, none, none, none, none, none, none, none, none, none, none, none, none] (row ns i1 s1 b1) := by
    simp only [sAsg_s, zCallB_s, zCons_s, zVar_s, List.getElem?_cons_zero, List.getElem?_cons_succ, bindL_ok, zNil_s, lbindL_ok, lbind_ok, e1, bindS_ok, gN_s, List.set_cons_zero, List.set_cons_succ]
  obtain ⟨p, ws, i2, s2, b2, e2, pl, pm, W, g2⟩ := L3_ok (x0 := some (.scr (ns.map D.int))) (s := s1) (b := b1) hl g1 hm
  obtain ⟨ws', x9, i3, s3, b3, e3, W', g3⟩ := L4_ok (x0 := some (.scr (ns.map D.int))) (s := s2) (b := b2) hl g2 hm pm pl W
  obtain ⟨v, i4, s4, b4, e4, v0, v1, g4⟩ := taken_at (vars := V7 (some (.scr (ns.map D.int))) m p ws' x9) (s := s3) (b := b3) (k := 9) hl g3 rfl (by decide) (by decide) (f := zC (.int 9)) (fun _ => rfl)
  have a5 : L5 (V7 (some (.scr (ns.map D.int))) m p ws' x9) (row ns i3 s3 b3) = .nx [some (.scr (ns.map D.int)), some (.loc 0), some (mD m), some (.int (1 + v)), none, none, none, some (.tup (p.map lD)), some (.tup (ws'.map wD)), x9, none, none, none, none, none, none, none, none] (row ns i4 s4 b4) := by
    rw [L5, sAsg_s, zBin_s, zC_s, bind_ok, e4, bind_ok, qOp_s, oAdd_s]
    rfl
  obtain ⟨t, i5, s5, b5, e5, t0, t1, g5⟩ := taken_at (vars := [some (.scr (ns.map D.int)), some (.loc 0), some (mD m), some (.int (1 + v)), none, none, none, some (.tup (p.map lD)), some (.tup (ws'.map wD)), x9, none, none, none, none, none, none, none, none]) (s := s4) (b := b4) (k := 1 + v + 1) hl g4 rfl (by omega) (by omega) (f := zBin (qOp (oAdd false)) (zVar 3) (zC (.int 1))) (fun st => by
    simp only [zBin_s, zVar_s, List.getElem?_cons_zero, List.getElem?_cons_succ, bind_ok, zC_s, qOp_s, oAdd_s, quiet_ok])
  have a6 : L6 [some (.scr (ns.map D.int)), some (.loc 0), some (mD m), some (.int (1 + v)), none, none, none, some (.tup (p.map lD)), some (.tup (ws'.map wD)), x9, none, none, none, none, none, none, none, none] (row ns i4 s4 b4) = .nx (VL (some (.scr (ns.map D.int))) m (1 + v) none none none p ws' x9 t 0 none none none none none none) (row ns i5 s5 b5) := by
    rw [L6, sPar_s, zCons_s, e5]
    rfl
  have fine := List.all_eq_true.mp lines_fine m hm
  simp only [Bool.and_eq_true, decide_eq_true_eq, List.all_eq_true] at fine
  have pin : ∀ l ∈ p, l.in m.cells := fun l hl => Ln.ok_in (fine.1.1.1.1 l (pm l hl))
  have h3 := cells_le hm
  have hb : 0 ≤ t ∧ t ≤ 1 + v ∧ 1 ≤ 1 + v ∧ 1 + v ≤ 9 := by omega
  obtain ⟨y4, y9, y14, y15, e7⟩ := main_ok (x0 := some (.scr (ns.map D.int))) (m := m) (b := 1 + v) (x4 := none) (x5 := none) (x6 := none) (p := p) (ws := ws') (x9 := x9) (t := t) (x12 := none) (x13 := none) (x14 := none) (x15 := none) (x16 := none) (x17 := none) (st := row ns i5 s5 b5) h3 pin pl ⟨hb.1, hb.2.1, by omega⟩ W' (whs_len W' h3.2)
  have a8 : ∀ vars, vars = VL (some (.scr (ns.map D.int))) m (1 + v) y4 none none p ws' y9 t (lawGood m p ws' t (1 + v)) none none y14 y15 none none → sAsg (zC (.int 1)) (gN 5) vars (row ns i5 s5 b5) = .nx (VL (some (.scr (ns.map D.int))) m (1 + v) y4 (some (.int 1)) none p ws' y9 t (lawGood m p ws' t (1 + v)) none none y14 y15 none none) (row ns i5 s5 b5) := fun vars e => by
    subst e
    rw [sAsg_s, zC_s, bindS_ok]
    rfl
  obtain ⟨y6, e9⟩ := L9_ok (x0 := some (.scr (ns.map D.int))) (m := m) (b := 1 + v) (x4 := y4) (x6 := none) (p := p) (ws := ws') (x9 := y9) (t := t) (g := lawGood m p ws' t (1 + v)) (x12 := none) (x13 := none) (x14 := y14) (x15 := y15) (x16 := none) (x17 := none) (st := row ns i5 s5 b5) ⟨by omega, by omega⟩
  have pb := pow_le9 hb.2.2 p.length pl
  have pm9 : (9 : Int) ^ p.length ≤ 9 ^ 7 := by
    have : (9 : Nat) ^ p.length ≤ 9 ^ 7 := Nat.pow_le_pow_right (by decide) pl
    exact_mod_cast this
  have n7 : (9 : Int) ^ 7 = 4782969 := by decide
  have l12 := fun x13 => L12_ok (fu := fu) (x0 := some (.scr (ns.map D.int))) (m := m) (b := 1 + v) (x4 := y4) (x6 := y6) (p := p) (ws := ws') (x9 := y9) (t := t) (x13 := x13) (x14 := y14) (x15 := y15) (x16 := none) (x17 := none) (st := row ns i5 s5 b5) hm pm pl hb W' hf
  generalize lawGood m p ws' t (1 + v) = go at e7 a8 e9 l12
  generalize (1 + v) ^ p.length = w at e9 l12 pb
  have a10 : sPar 12 13 (zCons (zVar 11) (zCons (zVar 5) zNil)) (VL (some (.scr (ns.map D.int))) m (1 + v) y4 (some (.int w)) y6 p ws' y9 t go none none y14 y15 none none) (row ns i5 s5 b5) = .nx (VL (some (.scr (ns.map D.int))) m (1 + v) y4 (some (.int w)) y6 p ws' y9 t go (some (.int go)) (some (.int w)) y14 y15 none none) (row ns i5 s5 b5) := by
    simp only [VL, sPar_s, zCons_s, zVar_s, List.getElem?_cons_zero, List.getElem?_cons_succ, bindL_ok, zNil_s, lbindL_ok, List.set_cons_zero, List.set_cons_succ]
  have e11 := L11_ok (fu := fu) (x0 := some (.scr (ns.map D.int))) (m := m) (b := 1 + v) (x4 := y4) (x5 := some (.int w)) (x6 := y6) (p := p) (ws := ws') (x9 := y9) (t := t) (g := go) (a := go) (c := w) (x14 := y14) (x15 := y15) (x16 := none) (x17 := none) (st := row ns i5 s5 b5) (by omega) (by omega)
  rw [e, law_eq, sSeq_s, a1, sbind_nx, sSeq_s, a2, sbind_nx, sSeq_s, e2, sbind_nx, sSeq_s, e3, sbind_nx, sSeq_s, a5, sbind_nx, sSeq_s, a6, sbind_nx, sSeq_s, e7, sbind_nx, sSeq_s, a8 _ rfl, sbind_nx, sSeq_s, e9, sbind_nx, sSeq_s, a10, sbind_nx, sSeq_s, e11, sbind_nx, l12]
  rfl
end Nk05

theorem PySem.Challenge.cw_lostlines_k05_whole_chances_holds : PySem.Challenge.rw_lostlines_k05_whole_chances.Holds :=
  Nk05.holds_of 10000000 fun ns hl _ => Nk05.law_ok (by omega) ns hl
