import PyProof.Rows.All
import Wide.All
import OpenK.AllK
import Wide.FinOn
import HandS.ForMost
import HandS.ForExc
import HandS.IsInst
import HandS.Flow
import HandS.Walk
import HandS.Wide
import HandS.TupLe
import HandS.Defaults
import HandS.TryMany
import HandS.More
import HandS.FStr
import HandS.TupAny
import HandS.EndBits
import HandS.Head0
import HandS.Head1
import HandS.Head2
import HandS.HeadEnd
import HandS.HeadHook1
import HandS.HeadHook2
import HandS.Lambda
import HandS.ExcInit
import HandS.ExcField
import HandS.ExcIs
import KE.KExcIs
import HandS.Style
import HandS.TryOnly
import HandS.Deep
import HandS.StrSplit
import HandS.MakeKw
import HandS.MakeKwOnly
import HandS.Zip
import HandS.Star
import KE.KUnpackStar
import HandS.OwnEq
import PyProof.LongRange
import KE.KExcInit
import HandS.Conv
import PyProof.Rows.StrIntSpec
import KE.KxIndex
import KE.KDictWalk
import PyProof.ListStr
import HandS.HeadHook3
import PySem.Challenge.RW_rockbeds_k87_texts_of_orders
set_option Elab.async false
set_option linter.all false
set_option maxRecDepth 100000
set_option maxHeartbeats 4000000
/-! The lifted layer: pure data, a store of changing things, and how they stand in the abstract heap. -/
namespace RB
open PySem PySem.Spec PyProof.Rows L2

/-- data that never changes -/
inductive P where
  | non | bl (b : Bool) | int (i : Int) | str (x : Str) | ty (n : String)
  | tup (xs : List P) | lst (xs : List P) | scr (xs : List P)
  | dK (ks : List Key) (vs : List P)
  | dT (ks : List (List Key)) (vs : List P)
  | obj (c : String) (ns : List Str) (vs : List P)

/-- a value: data, or a thing of the store -/
inductive D where
  | p (p : P)
  | cell (n : Nat)
  | fn

/-- a thing that changes -/
inductive Cell where
  | lst (xs : List P)
  | dK (ks : List Key) (vs : List P)
  | obj (c : String) (ns : List Str) (vs : List P)
  | dead

abbrev Store := List Cell
abbrev Rho := List (Option D)

structure Exc where
  c : String
  ns : List Str
  vs : List P

structure Glob where
  K : PySem.W.Frag
  cls : String → Option Addr
  isE : String → Bool
  tabs : List (Addr × Str)
  fa : Addr
  I0 : Hp
  as0 : List Addr

/-- an exception that is held as a value: its class, its dict -/
def xob (a C : Addr) (dd : Option Addr) : HO := .ext fun h => ∃ (oe : Obj) (vs : Array Value), h.get? a = some oe ∧ oe.cls = .ref C ∧ oe.dict = dd ∧ oe.data = .fields vs
/-- a thing with fields: an instance, or an exception -/
def ObjAt (x : Bool) (I : Hp) (a C : Addr) (fs : List (Str × V)) : Prop :=
  (x = false ∧ ∃ dx, I a = some (.ins C dx fs)) ∨ x = true ∧ ∃ dd, I a = some (xob a C dd) ∧ ((dd = none ∧ fs = []) ∨ ∃ d, dd = some d ∧ I d = some (.xd fs))
theorem ObjAt.mono {I I' : Hp} (s : Same I I') {a C : Addr} {fs : List (Str × V)} {x : Bool} (h : ObjAt x I a C fs) : ObjAt x I' a C fs := by
  rcases h with ⟨e, dx, h⟩ | ⟨e, dd, h, q⟩
  · exact .inl ⟨e, dx, s _ _ h⟩
  · refine .inr ⟨e, dd, s _ _ h, ?_⟩
    rcases q with q | ⟨d, e, q⟩
    · exact .inl q
    · exact .inr ⟨d, e, s _ _ q⟩

mutual
def Rep (G : Glob) (I : Hp) : V → P → Prop
  | v, .non => v = .non
  | v, .bl b => v = .bl b
  | v, .int i => v = .int i
  | v, .str x => v = .str x
  | v, .ty n => v = .ty n
  | v, .tup ds => ∃ a vs, v = .ref a ∧ SqT G.K I a vs ∧ Reps G I vs ds
  | v, .lst ds => ∃ a vs, v = .ref a ∧ I a = some (.lst vs) ∧ Reps G I vs ds
  | v, .scr ds => ∃ a vs, v = .ref a ∧ SqL G.K I a vs ∧ Reps G I vs ds
  | v, .dK ks ds => ∃ a kvs, v = .ref a ∧ I a = some (.dK kvs) ∧ kvs.map (·.1) = ks ∧ Reps G I (kvs.map (·.2)) ds
  | v, .dT ks ds => ∃ a kvs, v = .ref a ∧ I a = some (.dT kvs) ∧ kvs.map (·.1) = ks ∧ Reps G I (kvs.map (·.2)) ds
  | v, .obj c ns ds => ∃ a C fs, v = .ref a ∧ G.cls c = some C ∧ ObjAt (G.isE c) I a C fs ∧ fs.map (·.1) = ns ∧ Reps G I (fs.map (·.2)) ds
def Reps (G : Glob) (I : Hp) : List V → List P → Prop
  | vs, [] => vs = []
  | vs, d :: ds => ∃ v r, vs = v :: r ∧ Rep G I v d ∧ Reps G I r ds
end

theorem Same.tup {K : PySem.W.Frag} {H H' : Hp} {a : Addr} {xs : List V} (e : Same H H') (h : SqT K H a xs) : SqT K H' a xs := by
  rcases h with (h | ⟨o, h⟩) | h
  · exact .inl (.inl (e _ _ h))
  · exact .inl (.inr ⟨o, e _ _ h⟩)
  · exact .inr h

mutual
theorem Rep.mono {G : Glob} {I I' : Hp} (s : Same I I') : ∀ {d : P} {v : V}, Rep G I v d → Rep G I' v d
  | .non, _, h => by simpa only [Rep] using h
  | .bl _, _, h => by simpa only [Rep] using h
  | .int _, _, h => by simpa only [Rep] using h
  | .str _, _, h => by simpa only [Rep] using h
  | .ty _, _, h => by simpa only [Rep] using h
  | .tup ds, _, h => by
    simp only [Rep] at h ⊢
    obtain ⟨a, vs, e, q, r⟩ := h
    exact ⟨a, vs, e, Same.tup s q, Reps.mono s r⟩
  | .lst ds, _, h => by
    simp only [Rep] at h ⊢
    obtain ⟨a, vs, e, q, r⟩ := h
    exact ⟨a, vs, e, s _ _ q, Reps.mono s r⟩
  | .scr ds, _, h => by
    simp only [Rep] at h ⊢
    obtain ⟨a, vs, e, q, r⟩ := h
    exact ⟨a, vs, e, Same.seq s q, Reps.mono s r⟩
  | .dK ks ds, _, h => by
    simp only [Rep] at h ⊢
    obtain ⟨a, vs, e, q, k, r⟩ := h
    exact ⟨a, vs, e, s _ _ q, k, Reps.mono s r⟩
  | .dT ks ds, _, h => by
    simp only [Rep] at h ⊢
    obtain ⟨a, vs, e, q, k, r⟩ := h
    exact ⟨a, vs, e, s _ _ q, k, Reps.mono s r⟩
  | .obj c ns ds, _, h => by
    simp only [Rep] at h ⊢
    obtain ⟨a, C, fs, e, g, q, k, r⟩ := h
    exact ⟨a, C, fs, e, g, q.mono s, k, Reps.mono s r⟩
theorem Reps.mono {G : Glob} {I I' : Hp} (s : Same I I') : ∀ {ds : List P} {vs : List V}, Reps G I vs ds → Reps G I' vs ds
  | [], _, h => by simpa only [Reps] using h
  | d :: ds, _, h => by
    simp only [Reps] at h ⊢
    obtain ⟨v, r, e, h1, h2⟩ := h
    exact ⟨v, r, e, Rep.mono s h1, Reps.mono s h2⟩
end

theorem Reps.length {G : Glob} {I : Hp} : ∀ {ds : List P} {vs : List V}, Reps G I vs ds → vs.length = ds.length
  | [], _, h => by simp only [Reps] at h; subst h; rfl
  | d :: ds, _, h => by
    simp only [Reps] at h
    obtain ⟨v, r, e, h1, h2⟩ := h
    subst e
    simp [Reps.length h2]
theorem Reps.nil {G : Glob} {I : Hp} : Reps G I [] [] := by simp only [Reps]
theorem Reps.cons {G : Glob} {I : Hp} {v : V} {d : P} {vs : List V} {ds : List P} (h : Rep G I v d) (t : Reps G I vs ds) : Reps G I (v :: vs) (d :: ds) := by
  simp only [Reps]; exact ⟨v, vs, rfl, h, t⟩
theorem Reps.append {G : Glob} {I : Hp} : ∀ {ds es : List P} {vs us : List V}, Reps G I vs ds → Reps G I us es → Reps G I (vs ++ us) (ds ++ es)
  | [], _, _, _, h, t => by simp only [Reps] at h; subst h; exact t
  | d :: ds, _, _, _, h, t => by
    simp only [Reps] at h
    obtain ⟨v, r, e, h1, h2⟩ := h
    subst e
    exact Reps.cons h1 (Reps.append h2 t)
theorem Reps.get {G : Glob} {I : Hp} : ∀ {ds : List P} {vs : List V} {i : Nat} {d : P}, Reps G I vs ds → ds[i]? = some d → ∃ v, vs[i]? = some v ∧ Rep G I v d
  | [], _, _, _, _, e => by simp at e
  | d :: ds, _, 0, _, h, e => by
    simp only [Reps] at h
    obtain ⟨v, r, e', h1, h2⟩ := h
    subst e'
    simp at e; subst e
    exact ⟨v, rfl, h1⟩
  | d :: ds, _, i + 1, _, h, e => by
    simp only [Reps] at h
    obtain ⟨v, r, e', h1, h2⟩ := h
    subst e'
    simpa using Reps.get h2 (by simpa using e)
theorem Reps.get' {G : Glob} {I : Hp} : ∀ {ds : List P} {vs : List V} {i : Nat} {v : V}, Reps G I vs ds → vs[i]? = some v → ∃ d, ds[i]? = some d ∧ Rep G I v d
  | [], _, _, _, h, e => by simp only [Reps] at h; subst h; simp at e
  | d :: ds, _, 0, _, h, e => by
    simp only [Reps] at h
    obtain ⟨v, r, e', h1, h2⟩ := h
    subst e'
    simp at e; subst e
    exact ⟨d, rfl, h1⟩
  | d :: ds, _, i + 1, _, h, e => by
    simp only [Reps] at h
    obtain ⟨v, r, e', h1, h2⟩ := h
    subst e'
    simpa using Reps.get' h2 (by simpa using e)
theorem Reps.take {G : Glob} {I : Hp} : ∀ {ds : List P} {vs : List V} (n : Nat), Reps G I vs ds → Reps G I (vs.take n) (ds.take n)
  | _, _, 0, _ => by simpa using Reps.nil
  | [], _, n + 1, h => by simp only [Reps] at h; subst h; simpa using Reps.nil
  | d :: ds, _, n + 1, h => by
    simp only [Reps] at h
    obtain ⟨v, r, e', h1, h2⟩ := h
    subst e'
    simpa using Reps.cons h1 (Reps.take n h2)
theorem Reps.drop {G : Glob} {I : Hp} : ∀ {ds : List P} {vs : List V} (n : Nat), Reps G I vs ds → Reps G I (vs.drop n) (ds.drop n)
  | _, _, 0, h => by simpa using h
  | [], _, n + 1, h => by simp only [Reps] at h; subst h; simpa using Reps.nil
  | d :: ds, _, n + 1, h => by
    simp only [Reps] at h
    obtain ⟨v, r, e', h1, h2⟩ := h
    subst e'
    simpa using Reps.drop n h2
theorem Reps.set {G : Glob} {I : Hp} {v : V} {d : P} (q : Rep G I v d) : ∀ {ds : List P} {vs : List V} (n : Nat), Reps G I vs ds → Reps G I (vs.set n v) (ds.set n d)
  | [], _, n, h => by simp only [Reps] at h; subst h; simpa using Reps.nil
  | d' :: ds, _, 0, h => by
    simp only [Reps] at h
    obtain ⟨v, r, e', h1, h2⟩ := h
    subst e'
    simpa using Reps.cons q h2
  | d' :: ds, _, n + 1, h => by
    simp only [Reps] at h
    obtain ⟨v, r, e', h1, h2⟩ := h
    subst e'
    simpa using Reps.cons h1 (Reps.set q n h2)

/-- the world: what never changes, where the store's things stand -/
structure Wd where
  I : Hp
  as : List Addr
  ts : List Addr

def RepD (G : Glob) (w : Wd) : V → D → Prop
  | v, .p d => Rep G w.I v d
  | v, .cell n => ∃ a, v = .ref a ∧ w.as[n]? = some a
  | v, .fn => v = .ref G.fa

def CellOk (G : Glob) (I : Hp) (H : Hp) (a : Addr) : Cell → Prop
  | .lst ds => I a = none ∧ ∃ vs, H a = some (.lst vs) ∧ Reps G I vs ds
  | .dK ks ds => I a = none ∧ ∃ kvs, H a = some (.dK kvs) ∧ kvs.map (·.1) = ks ∧ Reps G I (kvs.map (·.2)) ds
  | .obj c ns ds => I a = none ∧ G.isE c = false ∧ ∃ C dx fs, G.cls c = some C ∧ H a = some (.ins C dx fs) ∧ fs.map (·.1) = ns ∧ Reps G I (fs.map (·.2)) ds
  | .dead => ∃ o, H a = some o

/-- a table of code objects: each that it tells bears the name q -/
def TabW (I H : Hp) (P : Addr) (q : Str) : Prop := ∃ ps : Array Value, H P = some (.tbl ps) ∧ TriplesOk ps.toList ∧ ∀ (pos : Pos) (cv : Value), codeAmong pos ps.toList = some cv → ∃ c, cv = .ref c ∧ I c = some (LamX.CodeO c q)
structure TabsOk (G : Glob) (w : Wd) (H : Hp) : Prop where
  ts : w.ts = G.tabs.map (·.1)
  at_ : ∀ p ∈ G.tabs, TabW w.I H p.1 p.2 ∧ w.I p.1 = none ∧ p.1 ∉ w.as
  un : Same G.I0 w.I ∧ ∃ t, w.as = G.as0 ++ t
theorem TabsOk.tbl {G : Glob} {w : Wd} {H : Hp} (h : TabsOk G w H) {P : Addr} (m : P ∈ w.ts) : ∃ ps, H P = some (.tbl ps) := by
  rw [h.ts] at m
  obtain ⟨p, hp, rfl⟩ := List.mem_map.mp m
  obtain ⟨⟨ps, e, _⟩, _⟩ := h.at_ p hp
  exact ⟨ps, e⟩
theorem TabsOk.step {G : Glob} {w w' : Wd} {H H' : Hp} (h : TabsOk G w H) (ts : w'.ts = w.ts) (sI : Same w.I w'.I) (sA : ∃ t, w'.as = w.as ++ t) (k : ∀ P ps, P ∈ w.ts → H P = some (.tbl ps) → w.I P = none → P ∉ w.as → H' P = some (.tbl ps) ∧ w'.I P = none ∧ P ∉ w'.as) : TabsOk G w' H' := by
  refine ⟨ts.trans h.ts, fun p hp => ?_, h.un.1.trans sI, by
    obtain ⟨t, e⟩ := h.un.2
    obtain ⟨t', e'⟩ := sA
    exact ⟨t ++ t', by rw [e', e, List.append_assoc]⟩⟩
  obtain ⟨⟨ps, e1, e2, e3⟩, e4, e5⟩ := h.at_ p hp
  obtain ⟨f1, f2, f3⟩ := k p.1 ps (by rw [h.ts]; exact List.mem_map.mpr ⟨p, hp, rfl⟩) e1 e4 e5
  refine ⟨⟨ps, f1, e2, fun pos cv hc => ?_⟩, f2, f3⟩
  obtain ⟨c, g1, g2⟩ := e3 pos cv hc
  exact ⟨c, g1, sI _ _ g2⟩
structure Wok (G : Glob) (w : Wd) (S : Store) (H : Hp) : Prop where
  sub : Same w.I H
  len : w.as.length = S.length
  nd : w.as.Nodup
  tb : TabsOk G w H
  cells : ∀ (n : Nat) (c : Cell) (a : Addr), S[n]? = some c → w.as[n]? = some a → CellOk G w.I H a c

structure Ext (w : Wd) (H : Hp) (w' : Wd) (H' : Hp) : Prop where
  I : Same w.I w'.I
  as : ∃ t, w'.as = w.as ++ t
  ts : w'.ts = w.ts
  frame : ∀ b o, H b = some o → b ∉ w.as → b ∉ w.ts → H' b = some o
  fresh : ∀ b o, H b = some o → b ∉ w.as → b ∉ w'.as ∧ (w.I b = none → w'.I b = none)
  there : ∀ b o, H b = some o → ∃ o', H' b = some o'

theorem CellOk.there {G : Glob} {I H : Hp} {a : Addr} {c : Cell} (h : CellOk G I H a c) : ∃ o, H a = some o := by
  cases c with
  | lst => obtain ⟨_, _, h, _⟩ := h; exact ⟨_, h⟩
  | dK => obtain ⟨_, _, h, _⟩ := h; exact ⟨_, h⟩
  | obj => obtain ⟨_, _, _, _, _, _, h, _⟩ := h; exact ⟨_, h⟩
  | dead => exact h
theorem Wok.idx {G : Glob} {w : Wd} {S : Store} {H : Hp} (k : Wok G w S H) {n : Nat} {a : Addr} (h : w.as[n]? = some a) : ∃ c, S[n]? = some c ∧ CellOk G w.I H a c := by
  have hn : n < w.as.length := (List.getElem?_eq_some_iff.mp h).1
  have hs : n < S.length := by rw [← k.len]; exact hn
  exact ⟨S[n], by simp [hs], k.cells n _ _ (by simp [hs]) h⟩
theorem Wok.addr {G : Glob} {w : Wd} {S : Store} {H : Hp} (k : Wok G w S H) {n : Nat} {c : Cell} (h : S[n]? = some c) : ∃ a, w.as[n]? = some a ∧ CellOk G w.I H a c := by
  have hn : n < S.length := (List.getElem?_eq_some_iff.mp h).1
  have hs : n < w.as.length := by rw [k.len]; exact hn
  exact ⟨w.as[n], by simp [hs], k.cells n _ _ h (by simp [hs])⟩
theorem Wok.cellThere {G : Glob} {w : Wd} {S : Store} {H : Hp} (k : Wok G w S H) {a : Addr} (ha : a ∈ w.as) : ∃ o, H a = some o := by
  obtain ⟨n, hn, e⟩ := List.getElem_of_mem ha
  obtain ⟨c, _, q⟩ := k.idx (n := n) (a := a) (by simp [hn, e])
  exact q.there

theorem Ext.refl (w : Wd) (H : Hp) : Ext w H w H := ⟨Same.refl _, ⟨[], by simp⟩, rfl, fun _ _ h _ _ => h, fun _ _ _ h => ⟨h, fun q => q⟩, fun _ o h => ⟨o, h⟩⟩
theorem Ext.trans {w w1 w2 : Wd} {H H1 H2 : Hp} (a : Ext w H w1 H1) (b : Ext w1 H1 w2 H2) : Ext w H w2 H2 := by
  obtain ⟨t, ht⟩ := a.as
  obtain ⟨u, hu⟩ := b.as
  refine ⟨a.I.trans b.I, ⟨t ++ u, by rw [hu, ht, List.append_assoc]⟩, b.ts.trans a.ts, fun c o h n m => ?_, fun c o h n => ?_, fun c o h => ?_⟩
  · exact b.frame c o (a.frame c o h n m) (a.fresh c o h n).1 (by rw [a.ts]; exact m)
  · obtain ⟨q1, q2⟩ := a.fresh c o h n
    obtain ⟨o1, h1⟩ := a.there c o h
    obtain ⟨p1, p2⟩ := b.fresh c o1 h1 q1
    exact ⟨p1, fun z => p2 (q2 z)⟩
  · obtain ⟨o1, p1⟩ := a.there c o h
    exact b.there c o1 p1
section
variable {G : Glob} {w : Wd} {S : Store} {H : Hp} {p : Addr} {o : HO}
theorem Wok.freeI (k : Wok G w S H) (hp : H p = none) : w.I p = none := k.sub.free hp
theorem Wok.freeAs (k : Wok G w S H) (hp : H p = none) : p ∉ w.as := fun z => by
  obtain ⟨u, q⟩ := k.cellThere z
  rw [hp] at q; cases q
theorem Wok.notTs {b : Addr} {u : HO} (k : Wok G w S H) (h : H b = some u) (hu : ∀ ps, u ≠ .tbl ps) : b ∉ w.ts := fun z => by
  obtain ⟨ps, e⟩ := k.tb.tbl z
  rw [h] at e; cases e
  exact hu _ rfl
theorem Wok.freeTs (k : Wok G w S H) (hp : H p = none) : p ∉ w.ts := fun z => by
  obtain ⟨ps, e⟩ := k.tb.tbl z
  rw [hp] at e; cases e
theorem Same.upd (H : Hp) (hp : H p = none) : Same H (upd H p o) := fun b u h => by rw [upd_ne (ne_of_none h hp)]; exact h
theorem Same.upd2 {H' : Hp} (s : Same H H') (p : Addr) (o : HO) : Same (L2.upd H p o) (L2.upd H' p o) := fun b u h => by
  by_cases e : b = p
  · subst e; rw [upd_same] at h ⊢; exact h
  · rw [upd_ne e] at h ⊢; exact s b u h
theorem CellOk.grow {I I' H H' : Hp} {a : Addr} {c : Cell} (h : CellOk G I H a c) (si : Same I I') (hI : I a = none → I' a = none) (hh : H' a = H a) : CellOk G I' H' a c := by
  cases c with
  | lst => obtain ⟨z, vs, e, r⟩ := h; exact ⟨hI z, vs, by rw [hh]; exact e, r.mono si⟩
  | dK => obtain ⟨z, vs, e, q, r⟩ := h; exact ⟨hI z, vs, by rw [hh]; exact e, q, r.mono si⟩
  | obj => obtain ⟨z, x, C, dx, fs, g, e, q, r⟩ := h; exact ⟨hI z, x, C, dx, fs, g, by rw [hh]; exact e, q, r.mono si⟩
  | dead => obtain ⟨o, e⟩ := h; exact ⟨o, by rw [hh]; exact e⟩
/-- a new thing that never changes -/
theorem Wok.alloc (k : Wok G w S H) (hp : H p = none) : Wok G ⟨upd w.I p o, w.as, w.ts⟩ S (upd H p o) ∧ Ext w H ⟨upd w.I p o, w.as, w.ts⟩ (upd H p o) := by
  have np := k.freeAs hp
  refine ⟨⟨Same.upd2 k.sub p o, k.len, k.nd, k.tb.step rfl (Same.upd _ (k.freeI hp)) ⟨[], by simp⟩ fun P ps _ e i n => ⟨by rw [upd_ne (ne_of_none e hp)]; exact e, by show upd w.I p o P = none; rw [upd_ne (ne_of_none e hp)]; exact i, n⟩, fun n c a h1 h2 => ?_⟩, ⟨Same.upd _ (k.freeI hp), ⟨[], by simp⟩, rfl, fun b u h _ _ => ?_, fun b u h q => ⟨q, fun z => ?_⟩, fun b u h => ⟨u, ?_⟩⟩⟩
  · have ne : a ≠ p := fun z => np (z ▸ List.mem_of_getElem? h2)
    exact (k.cells n c a h1 h2).grow (Same.upd _ (k.freeI hp)) (fun z => by show upd w.I p o a = none; rw [upd_ne ne]; exact z) (upd_ne ne)
  · rw [upd_ne (ne_of_none h hp)]; exact h
  · show upd w.I p o b = none
    rw [upd_ne (ne_of_none h hp)]; exact z
  · rw [upd_ne (ne_of_none h hp)]; exact h
/-- a thing that is not looked at any more, or not yet -/
theorem Wok.allocX (k : Wok G w S H) (hp : H p = none) : Wok G w S (upd H p o) ∧ Ext w H w (upd H p o) := by
  have np := k.freeAs hp
  refine ⟨⟨fun b u h => ?_, k.len, k.nd, k.tb.step rfl (Same.refl _) ⟨[], by simp⟩ fun P ps _ e i n => ⟨by rw [upd_ne (ne_of_none e hp)]; exact e, i, n⟩, fun n c a h1 h2 => ?_⟩, ⟨Same.refl _, ⟨[], by simp⟩, rfl, fun b u h _ _ => ?_, fun b u h q => ⟨q, fun z => z⟩, fun b u h => ⟨u, ?_⟩⟩⟩
  · have := k.sub b u h
    rw [upd_ne (ne_of_none this hp)]; exact this
  · have ne : a ≠ p := fun z => np (z ▸ List.mem_of_getElem? h2)
    exact (k.cells n c a h1 h2).grow (Same.refl _) (fun z => z) (upd_ne ne)
  · rw [upd_ne (ne_of_none h hp)]; exact h
  · rw [upd_ne (ne_of_none h hp)]; exact h
/-- a new thing of the store -/
theorem Wok.allocC (k : Wok G w S H) (hp : H p = none) {c : Cell} (hc : CellOk G w.I (upd H p o) p c) : Wok G ⟨w.I, w.as ++ [p], w.ts⟩ (S ++ [c]) (upd H p o) ∧ Ext w H ⟨w.I, w.as ++ [p], w.ts⟩ (upd H p o) := by
  have np := k.freeAs hp
  refine ⟨⟨fun b u h => ?_, by simp [k.len], ?_, k.tb.step rfl (Same.refl _) ⟨[p], rfl⟩ fun P ps _ e i n => ⟨by rw [upd_ne (ne_of_none e hp)]; exact e, i, by show P ∉ w.as ++ [p]; simp only [List.mem_append, List.mem_singleton, not_or]; exact ⟨n, ne_of_none e hp⟩⟩, fun n c' a h1 h2 => ?_⟩, ⟨Same.refl _, ⟨[p], rfl⟩, rfl, fun b u h _ _ => ?_, fun b u h q => ⟨?_, fun z => z⟩, fun b u h => ⟨u, ?_⟩⟩⟩
  · have := k.sub b u h
    rw [upd_ne (ne_of_none this hp)]; exact this
  · show (w.as ++ [p]).Nodup
    rw [List.nodup_append]
    exact ⟨k.nd, by simp, fun a ha b hb => by simp at hb; subst hb; exact fun z => np (z ▸ ha)⟩
  · have h2 : (w.as ++ [p])[n]? = some a := h2
    by_cases hn : n < S.length
    · rw [List.getElem?_append_left hn] at h1
      rw [List.getElem?_append_left (by rw [k.len]; exact hn)] at h2
      have ne : a ≠ p := fun z => np (z ▸ List.mem_of_getElem? h2)
      exact (k.cells n c' a h1 h2).grow (Same.refl _) (fun z => z) (upd_ne ne)
    · have e : n = S.length := by
        have := (List.getElem?_eq_some_iff.mp h1).1
        simp at this; omega
      subst e
      rw [List.getElem?_append_right (Nat.le_refl _)] at h1
      rw [List.getElem?_append_right (by rw [k.len]; exact Nat.le_refl _)] at h2
      simp [k.len] at h1 h2
      subst h1; subst h2
      exact hc
  · rw [upd_ne (ne_of_none h hp)]; exact h
  · show b ∉ w.as ++ [p]
    simp only [List.mem_append, List.mem_singleton, not_or]
    exact ⟨q, ne_of_none h hp⟩
  · rw [upd_ne (ne_of_none h hp)]; exact h
theorem nodup_at {l : List Addr} (h : l.Nodup) {i j : Nat} {a : Addr} (hi : l[i]? = some a) (hj : l[j]? = some a) : i = j := by
  obtain ⟨h1, e1⟩ := List.getElem?_eq_some_iff.mp hi
  obtain ⟨h2, e2⟩ := List.getElem?_eq_some_iff.mp hj
  exact (List.getElem_inj h).mp (e1.trans e2.symm)
/-- a thing of the store changes -/
theorem Wok.write (k : Wok G w S H) {n : Nat} {c c' : Cell} {a : Addr} (hs : S[n]? = some c) (ha : w.as[n]? = some a) (hl : w.I a = none) (hc : CellOk G w.I (upd H a o) a c') : Wok G w (S.set n c') (upd H a o) ∧ Ext w H w (upd H a o) := by
  refine ⟨⟨fun b u h => ?_, by simp [k.len], k.nd, k.tb.step rfl (Same.refl _) ⟨[], by simp⟩ fun P ps _ e i n => ⟨by rw [upd_ne (show P ≠ a from fun z => n (by rw [z]; exact List.mem_of_getElem? ha))]; exact e, i, n⟩, fun m d b h1 h2 => ?_⟩, ⟨Same.refl _, ⟨[], by simp⟩, rfl, fun b u h q _ => ?_, fun b u h q => ⟨q, fun z => z⟩, fun b u h => ?_⟩⟩
  · have ne : b ≠ a := fun z => by rw [z, hl] at h; cases h
    rw [upd_ne ne]; exact k.sub b u h
  · by_cases e : n = m
    · subst e
      rw [List.getElem?_set_self (List.getElem?_eq_some_iff.mp hs).1] at h1
      cases h1
      rw [ha] at h2; cases h2
      exact hc
    · rw [List.getElem?_set_ne e] at h1
      have ne : b ≠ a := fun z => e (nodup_at k.nd ha (z ▸ h2))
      exact (k.cells m d b h1 h2).grow (Same.refl _) (fun z => z) (upd_ne ne)
  · have ne : b ≠ a := fun z => q (z ▸ List.mem_of_getElem? ha)
    rw [upd_ne ne]; exact h
  · by_cases e : b = a
    · subst e; exact ⟨_, upd_same⟩
    · exact ⟨u, by rw [upd_ne e]; exact h⟩
/-- a thing of the store changes no more -/
theorem Wok.freeze (k : Wok G w S H) {n : Nat} {c : Cell} {a : Addr} {o : HO} (hs : S[n]? = some c) (ha : w.as[n]? = some a) (hH : H a = some o) (hl : w.I a = none) : Wok G ⟨upd w.I a o, w.as, w.ts⟩ (S.set n .dead) H ∧ Ext w H ⟨upd w.I a o, w.as, w.ts⟩ H := by
  refine ⟨⟨fun b u h => ?_, by simp [k.len], k.nd, k.tb.step rfl (Same.upd _ hl) ⟨[], by simp⟩ fun P ps _ e i n => ⟨e, by show upd w.I a o P = none; rw [upd_ne (show P ≠ a from fun z => n (by rw [z]; exact List.mem_of_getElem? ha))]; exact i, n⟩, fun m d b h1 h2 => ?_⟩, ⟨Same.upd _ hl, ⟨[], by simp⟩, rfl, fun b u h q _ => h, fun b u h q => ⟨q, fun z => ?_⟩, fun b u h => ⟨u, h⟩⟩⟩
  · by_cases e : b = a
    · subst e
      have h : upd w.I b o b = some u := h
      rw [upd_same] at h; cases h; exact hH
    · have h : upd w.I a o b = some u := h
      rw [upd_ne e] at h; exact k.sub b u h
  · have h2 : w.as[m]? = some b := h2
    by_cases e : n = m
    · subst e
      rw [List.getElem?_set_self (List.getElem?_eq_some_iff.mp hs).1] at h1
      cases h1
      rw [ha] at h2; cases h2
      exact ⟨_, hH⟩
    · rw [List.getElem?_set_ne e] at h1
      have ne : b ≠ a := fun z => e (nodup_at k.nd ha (z ▸ h2))
      exact (k.cells m d b h1 h2).grow (Same.upd _ hl) (fun z => by show upd w.I a o b = none; rw [upd_ne ne]; exact z) rfl
  · have ne : b ≠ a := fun z => q (z ▸ List.mem_of_getElem? ha)
    show upd w.I a o b = none
    rw [upd_ne ne]; exact z
end
theorem RepD.mono {G : Glob} {w w' : Wd} {H H' : Hp} (x : Ext w H w' H') : ∀ {d : D} {v : V}, RepD G w v d → RepD G w' v d
  | .p _, _, h => Rep.mono x.I h
  | .cell n, _, h => by
    obtain ⟨a, e, q⟩ := h
    obtain ⟨t, ht⟩ := x.as
    refine ⟨a, e, ?_⟩
    rw [ht, List.getElem?_append_left (List.getElem?_eq_some_iff.mp q).1]
    exact q
  | .fn, _, h => h

/-- the names' values -/
structure EnvOk (G : Glob) (w : Wd) (σ : L2.St) (r : Rho) : Prop where
  len : r.length = σ.length
  at_ : ∀ (i : Nat) (d : D), r[i]? = some (some d) → ∃ v, σ[i]? = some (some v) ∧ RepD G w v d
theorem EnvOk.mono {G : Glob} {w w' : Wd} {H H' : Hp} {σ : L2.St} {r : Rho} (k : EnvOk G w σ r) (x : Ext w H w' H') : EnvOk G w' σ r :=
  ⟨k.len, fun i d h => let ⟨v, e, q⟩ := k.at_ i d h; ⟨v, e, q.mono x⟩⟩
theorem EnvOk.set {G : Glob} {w : Wd} {σ : L2.St} {r : Rho} {v : V} {d : D} (k : EnvOk G w σ r) (q : RepD G w v d) (i : Nat) : EnvOk G w (σ.set i (some v)) (r.set i (some d)) := by
  refine ⟨by simp [k.len], fun j e h => ?_⟩
  by_cases hj : i = j
  · subst hj
    by_cases hl : i < r.length
    · rw [List.getElem?_set_self hl] at h
      cases h
      exact ⟨v, by rw [List.getElem?_set_self (by rw [← k.len]; exact hl)], q⟩
    · rw [List.getElem?_eq_none (by simpa using hl)] at h; cases h
  · rw [List.getElem?_set_ne hj] at h ⊢
    exact k.at_ j e h

def RepX (G : Glob) (w : Wd) (cls : Value) (dd : Option Addr) (x : Exc) : Prop :=
  (G.cls x.c).map Value.ref = some cls ∧ G.isE x.c = true ∧ ((dd = none ∧ x.ns = [] ∧ x.vs = []) ∨ ∃ d fs, dd = some d ∧ w.I d = some (.xd fs) ∧ fs.map (·.1) = x.ns ∧ Reps G w.I (fs.map (·.2)) x.vs)

/-! ### the lifted judgements -/
abbrev DK := D → Store → Prop
abbrev EK := Exc → Store → Prop
abbrev WE := Rho → Store → DK → EK → Prop
abbrev WA := Rho → Store → (List D → Store → Prop) → EK → Prop
abbrev WT := Rho → Store → (Bool → Store → Prop) → EK → Prop
def Qv (G : Glob) (w : Wd) (H : Hp) (Q : VK) : DK := fun d S => ∀ v w' H', Ext w H w' H' → Wok G w' S H' → RepD G w' v d → Q v H'
def Qx (G : Glob) (w : Wd) (H : Hp) (E : XK) : EK := fun x S => ∀ cls dd w' H', Ext w H w' H' → Wok G w' S H' → RepX G w' cls dd x → E cls dd H'
def Qt (G : Glob) (w : Wd) (H : Hp) (Q : Bool → Hp → Prop) : Bool → Store → Prop := fun b S => ∀ w' H', Ext w H w' H' → Wok G w' S H' → Q b H'
def RepDs (G : Glob) (w : Wd) : List V → List D → Prop
  | [], [] => True
  | v :: vs, d :: ds => RepD G w v d ∧ RepDs G w vs ds
  | _, _ => False
theorem RepDs.mono {G : Glob} {w w' : Wd} {H H' : Hp} (x : Ext w H w' H') : ∀ {vs : List V} {ds : List D}, RepDs G w vs ds → RepDs G w' vs ds
  | [], [], _ => trivial
  | _ :: _, _ :: _, ⟨a, b⟩ => ⟨a.mono x, RepDs.mono x b⟩
  | [], _ :: _, h => h.elim
  | _ :: _, [], h => h.elim
def Qa (G : Glob) (w : Wd) (H : Hp) (Q : List V → Hp → Prop) : List D → Store → Prop := fun ds S => ∀ vs w' H', Ext w H w' H' → Wok G w' S H' → RepDs G w' vs ds → Q vs H'
theorem Qv.ext {G : Glob} {w w1 : Wd} {H H1 : Hp} {Q : VK} (x : Ext w H w1 H1) {d : D} {S : Store} (q : Qv G w H Q d S) : Qv G w1 H1 Q d S := fun v w' H' y k r => q v w' H' (x.trans y) k r
theorem Qx.ext {G : Glob} {w w1 : Wd} {H H1 : Hp} {Q : XK} (x : Ext w H w1 H1) {d : Exc} {S : Store} (q : Qx G w H Q d S) : Qx G w1 H1 Q d S := fun c v w' H' y k r => q c v w' H' (x.trans y) k r
theorem Qt.ext {G : Glob} {w w1 : Wd} {H H1 : Hp} {Q : Bool → Hp → Prop} (x : Ext w H w1 H1) {d : Bool} {S : Store} (q : Qt G w H Q d S) : Qt G w1 H1 Q d S := fun w' H' y k => q w' H' (x.trans y) k
theorem Qa.ext {G : Glob} {w w1 : Wd} {H H1 : Hp} {Q : List V → Hp → Prop} (x : Ext w H w1 H1) {d : List D} {S : Store} (q : Qa G w H Q d S) : Qa G w1 H1 Q d S := fun v w' H' y k r => q v w' H' (x.trans y) k r

def Mon (m : WE) : Prop := ∀ r S Q Q' E E', (∀ d S, Q d S → Q' d S) → (∀ x S, E x S → E' x S) → m r S Q E → m r S Q' E'
def MonT (m : WT) : Prop := ∀ r S Q Q' E E', (∀ d S, Q d S → Q' d S) → (∀ x S, E x S → E' x S) → m r S Q E → m r S Q' E'
def MonA (m : WA) : Prop := ∀ r S Q Q' E E', (∀ d S, Q d S → Q' d S) → (∀ x S, E x S → E' x S) → m r S Q E → m r S Q' E'

def tM (G : Glob) (W : WX) (m : WE) : TE := fun σ H Q => ∃ w S r, Wok G w S H ∧ EnvOk G w σ r ∧ m r S (Qv G w H Q) (Qx G w H fun c d H' => W c d σ H')
def tMt (G : Glob) (W : WX) (m : WT) : TT := fun σ H Q => ∃ w S r, Wok G w S H ∧ EnvOk G w σ r ∧ m r S (Qt G w H Q) (Qx G w H fun c d H' => W c d σ H')
def tMa (G : Glob) (W : WX) (m : WA) : TA := fun σ H Q => ∃ w S r, Wok G w S H ∧ EnvOk G w σ r ∧ m r S (Qa G w H Q) (Qx G w H fun c d H' => W c d σ H')

structure RE (G : Glob) (X : Cx) (W : WX) (e : Expr) (m : WE) : Prop where
  pe : PE X e (tM G W m)
  mono : Mon m
structure RT (G : Glob) (X : Cx) (W : WX) (e : Expr) (m : WT) : Prop where
  pe : PT X e (tMt G W m)
  mono : MonT m
structure RA (G : Glob) (X : Cx) (W : WX) (e : List Expr) (m : WA) : Prop where
  pe : PA X e (tMa G W m)
  mono : MonA m

theorem PE.imp {X : Cx} {e : Expr} {t u : TE} (h : PE X e t) (i : ∀ σ H Q, u σ H Q → t σ H Q) : PE X e u := ⟨fun pins s σ H Q I q => h.run pins s σ H Q I (i σ H Q q)⟩
theorem PT.imp {X : Cx} {e : Expr} {t u : TT} (h : PT X e t) (i : ∀ σ H Q, u σ H Q → t σ H Q) : PT X e u := ⟨fun pins s σ H Q I q => h.run pins s σ H Q I (i σ H Q q)⟩
theorem PA.imp {X : Cx} {e : List Expr} {t u : TA} (h : PA X e t) (i : ∀ σ H Q, u σ H Q → t σ H Q) : PA X e u := ⟨fun pos pins s σ H Q I q => h.run pos pins s σ H Q I (i σ H Q q)⟩

/-- e, then what stands behind it -/
theorem tM.bind {G : Glob} {W : WX} {m : WE} (hm : Mon m) {σ : L2.St} {H : Hp} {w : Wd} {S : Store} {r : Rho} {k : DK} {E : XK} {Q : VK} (ok : Wok G w S H) (en : EnvOk G w σ r) (h : m r S k (Qx G w H E)) (hE : ∀ c d H', E c d H' → W c d σ H')
    (hk : ∀ d S' v w' H', Ext w H w' H' → Wok G w' S' H' → RepD G w' v d → k d S' → Q v H') : tM G W m σ H Q :=
  ⟨w, S, r, ok, en, hm r S _ _ _ _ (fun d S' q v w' H' x k r => hk d S' v w' H' x k r q) (fun x S' q c d w' H' x k r => hE _ _ _ (q c d w' H' x k r)) h⟩
end RB
/-! The lifted layer: expressions. -/
namespace RB
open PySem PySem.Spec PyProof.Rows L2

/-! ### constants, names -/
def wC (d : D) : WE := fun _ S Q _ => Q d S
def wVar (i : Nat) : WE := fun r S Q _ => match r[i]? with
  | some (some d) => Q d S
  | _ => False
theorem mon_c (d : D) : Mon (wC d) := fun _ _ _ _ _ _ hq _ h => hq _ _ h
theorem mon_var (i : Nat) : Mon (wVar i) := fun r S Q Q' E E' hq _ h => by
  unfold wVar at h ⊢
  split at h
  · exact hq _ _ h
  · exact h.elim
section
variable {G : Glob} {X : Cx} {W : WX} {e a b c : Expr} {pos : Pos}
theorem re_c {v : V} {d : D} (h : PE X e (tC v)) (r : ∀ w, RepD G w v d) : RE G X W e (wC d) :=
  ⟨PE.imp h fun σ H Q ⟨w, S, ρ, ok, en, q⟩ => q v w H (Ext.refl w H) ok (r w), mon_c d⟩
theorem re_int {i j pos} : RE G X W (.Constant (.int i) j pos) (wC (.p (.int i))) := re_c pe_int fun w => by simp only [RepD, Rep]
theorem re_bl {i j pos} : RE G X W (.Constant (.bool i) j pos) (wC (.p (.bl i))) := re_c pe_bl fun w => by simp only [RepD, Rep]
theorem re_str {i j pos} : RE G X W (.Constant (.str i) j pos) (wC (.p (.str i))) := re_c pe_str fun w => by simp only [RepD, Rep]
theorem re_non {j pos} : RE G X W (.Constant .none j pos) (wC (.p .non)) := re_c pe_non fun w => by simp only [RepD, Rep]
theorem re_gint {x : Str} {i : Int} {t : Tok} (hg : Gl X x) (hm : X.mg x = some (.int i t)) (hd : (x == ("__debug__" : Str)) = false := by decide) : RE G X W (.Name x pos) (wC (.p (.int i))) := re_c (pe_glob (v := .int i) hg hm ⟨_, rfl⟩ hd) fun w => by simp only [RepD, Rep]
theorem re_gstr {x z : Str} {t : Tok} (hg : Gl X x) (hm : X.mg x = some (.str z t)) (hd : (x == ("__debug__" : Str)) = false := by decide) : RE G X W (.Name x pos) (wC (.p (.str z))) := re_c (pe_glob (v := .str z) hg hm ⟨_, rfl⟩ hd) fun w => by simp only [RepD, Rep]
theorem re_ty {x : Str} {n : String} (hg : Gl X x) (hm : X.mg x = none) (hv : bootBuiltins x = some (.type n)) (hn : x ≠ "__name__" := by decide) (hd : (x == ("__debug__" : Str)) = false := by decide) : RE G X W (.Name x pos) (wC (.p (.ty n))) :=
  re_c (pe_bltn (v := .ty n) hg hm hv rfl hn hd) fun w => by simp only [RepD, Rep]
theorem re_var (i : Nat) {x : Str} {pos : Pos} (hN : X.N[i]? = some x := by rfl) (hv : Vis X.env.scope x := by first | exact Or.inl rfl | exact Or.inr (Or.inl rfl) | exact Or.inr (Or.inr rfl)) (hd : (x == ("__debug__" : Str)) = false := by decide)
    (hcd : (x == ("__classdict__" : Str)) = false := by decide) : RE G X W (.Name x pos) (wVar i) := by
  refine ⟨PE.imp (pe_var hN hv hd hcd) fun σ H Q ⟨w, S, ρ, ok, en, q⟩ => ?_, mon_var i⟩
  unfold wVar at q
  split at q
  · rename_i d h
    obtain ⟨v, e, rd⟩ := en.at_ i d h
    exact ⟨v, e, q v w H (Ext.refl w H) ok rd⟩
  · exact q.elim

/-! ### two places -/
structure OpL (G : Glob) (X : Cx) (g : Value → Value → Sem Value) (f : D → D → Store → DK → Prop) : Prop where
  run : OpR X g (fun x y H Q => ∃ w S d1 d2, Wok G w S H ∧ RepD G w x d1 ∧ RepD G w y d2 ∧ f d1 d2 S (Qv G w H Q))
  mono : ∀ d1 d2 S Q Q', (∀ d S, Q d S → Q' d S) → f d1 d2 S Q → f d1 d2 S Q'
def wBin (f : D → D → Store → DK → Prop) (m1 m2 : WE) : WE := fun r S Q E => m1 r S (fun d1 S1 => m2 r S1 (fun d2 S2 => f d1 d2 S2 Q) E) E
theorem mon_bin {f : D → D → Store → DK → Prop} (hf : ∀ d1 d2 S Q Q', (∀ d S, Q d S → Q' d S) → f d1 d2 S Q → f d1 d2 S Q') {m1 m2 : WE} (h1 : Mon m1) (h2 : Mon m2) : Mon (wBin f m1 m2) := fun r S Q Q' E E' hq he h =>
  h1 r S _ _ _ _ (fun d1 S1 q1 => h2 r S1 _ _ _ _ (fun d2 S2 q2 => hf _ _ _ _ _ hq q2) he q1) he h
/-- two in a row -/
theorem tM2 {m1 m2 : WE} (h1 : Mon m1) (h2 : Mon m2) {σ : L2.St} {H : Hp} {w : Wd} {S : Store} {r : Rho} {k : D → D → Store → Prop} {R : V → V → Hp → Prop} (ok : Wok G w S H) (en : EnvOk G w σ r)
    (h : m1 r S (fun d1 S1 => m2 r S1 (fun d2 S2 => k d1 d2 S2) (Qx G w H fun c d H' => W c d σ H')) (Qx G w H fun c d H' => W c d σ H'))
    (hk : ∀ d1 d2 S' x y w' H', Ext w H w' H' → Wok G w' S' H' → RepD G w' x d1 → RepD G w' y d2 → k d1 d2 S' → R x y H') : tM G W m1 σ H fun x H1 => tM G W m2 σ H1 fun y H2 => R x y H2 := by
  refine tM.bind h1 ok en h (fun _ _ _ z => z) fun d1 S1 x w1 H1 x1 k1 r1 q1 => ?_
  refine ⟨w1, S1, r, k1, en.mono x1, h2 r S1 _ _ _ _ (fun d2 S2 q2 y w2 H2 x2 k2 r2 => ?_) (fun x S' q => q.ext x1) q1⟩
  exact hk d1 d2 S2 x y w2 H2 (x1.trans x2) k2 (r1.mono x2) r2 q2
theorem re_bin {op : Operator} {f : D → D → Store → DK → Prop} (ho : OpL G X (binaryOp op) f) {m1 m2 : WE} (ha : RE G X W a m1) (hb : RE G X W b m2) : RE G X W (.BinOp a op b pos) (wBin f m1 m2) := by
  refine ⟨PE.imp (pe_op ho.run ha.pe hb.pe) fun σ H Q ⟨w, S, ρ, ok, en, q⟩ => ?_, mon_bin ho.mono ha.mono hb.mono⟩
  exact tM2 ha.mono hb.mono ok en q fun d1 d2 S' x y w' H' x1 k r1 r2 q => ⟨w', S', d1, d2, k, r1, r2, ho.mono _ _ _ _ _ (fun d S z => z.ext x1) q⟩
theorem re_cmp {op : CmpOp} {f : D → D → Store → DK → Prop} (ho : OpL G X (compareOp op) f) {m1 m2 : WE} (ha : RE G X W a m1) (hb : RE G X W b m2) (hm : behindInMarks op b = false) : RE G X W (.Compare a [op] [b] pos) (wBin f m1 m2) := by
  refine ⟨PE.imp (pe_cmpR ho.run ha.pe hb.pe hm) fun σ H Q ⟨w, S, ρ, ok, en, q⟩ => ?_, mon_bin ho.mono ha.mono hb.mono⟩
  exact tM2 ha.mono hb.mono ok en q fun d1 d2 S' x y w' H' x1 k r1 r2 q => ⟨w', S', d1, d2, k, r1, r2, ho.mono _ _ _ _ _ (fun d S z => z.ext x1) q⟩
structure IxL (G : Glob) (X : Cx) (f : D → D → Store → DK → Prop) : Prop where
  run : IxR X (fun x y H Q => ∃ w S d1 d2, Wok G w S H ∧ RepD G w x d1 ∧ RepD G w y d2 ∧ f d1 d2 S (Qv G w H Q))
  mono : ∀ d1 d2 S Q Q', (∀ d S, Q d S → Q' d S) → f d1 d2 S Q → f d1 d2 S Q'
theorem re_ix {f : D → D → Store → DK → Prop} (ho : IxL G X f) {m1 m2 : WE} (ha : RE G X W a m1) (hb : RE G X W b m2) (hs : PlainIx b := by intro _ _; rfl) : RE G X W (.Subscript a b pos) (wBin f m1 m2) := by
  refine ⟨PE.imp (pe_ix ho.run ha.pe hb.pe hs) fun σ H Q ⟨w, S, ρ, ok, en, q⟩ => ?_, mon_bin ho.mono ha.mono hb.mono⟩
  exact tM2 ha.mono hb.mono ok en q fun d1 d2 S' x y w' H' x1 k r1 r2 q => ⟨w', S', d1, d2, k, r1, r2, ho.mono _ _ _ _ _ (fun d S z => z.ext x1) q⟩

/-! ### one place -/
structure UnL (G : Glob) (X : Cx) (g : Value → Sem Value) (f : D → Store → DK → Prop) : Prop where
  run : UnR X g (fun x H Q => ∃ w S d, Wok G w S H ∧ RepD G w x d ∧ f d S (Qv G w H Q))
  mono : ∀ d1 S Q Q', (∀ d S, Q d S → Q' d S) → f d1 S Q → f d1 S Q'
def wUn (f : D → Store → DK → Prop) (m : WE) : WE := fun r S Q E => m r S (fun d S1 => f d S1 Q) E
theorem mon_un {f : D → Store → DK → Prop} (hf : ∀ d1 S Q Q', (∀ d S, Q d S → Q' d S) → f d1 S Q → f d1 S Q') {m : WE} (h : Mon m) : Mon (wUn f m) := fun r S Q Q' E E' hq he h' => h r S _ _ _ _ (fun d S1 q => hf _ _ _ _ hq q) he h'
theorem re_un {op : UnaryOp} {f : D → Store → DK → Prop} (ho : UnL G X (unaryOp op) f) {m : WE} (ha : RE G X W a m) : RE G X W (.UnaryOp op a pos) (wUn f m) := by
  refine ⟨PE.imp (pe_un ho.run ha.pe) fun σ H Q ⟨w, S, ρ, ok, en, q⟩ => ?_, mon_un ho.mono ha.mono⟩
  exact tM.bind ha.mono ok en q (fun _ _ _ z => z) fun d S' v w' H' x1 k r1 q => ⟨w', S', d, k, r1, ho.mono _ _ _ _ (fun d S z => z.ext x1) q⟩

/-! ### arguments -/
def wNil : WA := fun _ S Q _ => Q [] S
def wCons (m : WE) (t : WA) : WA := fun r S Q E => m r S (fun d S1 => t r S1 (fun ds S2 => Q (d :: ds) S2) E) E
theorem ra_nil : RA G X W [] wNil :=
  ⟨PA.imp pa_nil fun σ H Q ⟨w, S, ρ, ok, en, q⟩ => q [] w H (Ext.refl w H) ok trivial, fun _ _ _ _ _ _ hq _ h => hq _ _ h⟩
theorem ra_cons {m : WE} {t : WA} {es : List Expr} (ha : RE G X W e m) (hr : RA G X W es t) (hs : starEach (e :: es) X.env = (false, eval e X.env) :: starEach es X.env := by rfl) : RA G X W (e :: es) (wCons m t) := by
  refine ⟨PA.imp (pa_cons ha.pe hr.pe hs) fun σ H Q ⟨w, S, ρ, ok, en, q⟩ => ?_, fun r S Q Q' E E' hq he h => ha.mono r S _ _ _ _ (fun d S1 q => hr.mono r S1 _ _ _ _ (fun ds S2 q2 => hq _ _ q2) he q) he h⟩
  refine tM.bind ha.mono ok en q (fun _ _ _ z => z) fun d1 S1 x w1 H1 x1 k1 r1 q1 => ?_
  exact ⟨w1, S1, ρ, k1, en.mono x1, hr.mono ρ S1 _ _ _ _ (fun ds S2 q2 ys w2 H2 x2 k2 r2 => q2 (x :: ys) w2 H2 (x1.trans x2) k2 ⟨r1.mono x2, r2⟩) (fun x S' q => q.ext x1) q1⟩

/-! ### calls of built-ins -/
structure CallL (G : Glob) (X : Cx) (g : Value) (f : List D → Store → DK → Prop) : Prop where
  run : CallR X g (fun xs H Q => ∃ w S ds, Wok G w S H ∧ RepDs G w xs ds ∧ f ds S (Qv G w H Q))
  mono : ∀ ds S Q Q', (∀ d S, Q d S → Q' d S) → f ds S Q → f ds S Q'
def wCB (f : List D → Store → DK → Prop) (m : WA) : WE := fun r S Q E => m r S (fun ds S1 => f ds S1 Q) E
theorem mon_cb {f : List D → Store → DK → Prop} (hf : ∀ d1 S Q Q', (∀ d S, Q d S → Q' d S) → f d1 S Q → f d1 S Q') {m : WA} (h : MonA m) : Mon (wCB f m) := fun r S Q Q' E E' hq he h' => h r S _ _ _ _ (fun d S1 q => hf _ _ _ _ hq q) he h'
theorem re_callB {x : Str} {p pos : Pos} {es : List Expr} {id : String} {f : List D → Store → DK → Prop} {m : WA} (hc : CallL G X (.builtin id) f) (hg : Gl X x) (hm : X.mg x = none) (hv : bootBuiltins x = some (.builtin id)) (ha : RA G X W (e :: es) m) (hn : x ≠ "__name__" := by decide) (hdb : (x == ("__debug__" : Str)) = false := by decide)
    (he : starEach (e :: es) X.env = (false, eval e X.env) :: starEach es X.env := by rfl) (hpl : (backTo pos (starEach es X.env)).any (·.1) = false := by rfl) : RE G X W (.Call (.Name x p) (e :: es) [] pos) (wCB f m) := by
  refine ⟨PE.imp (pe_callB hc.run hg hm hv ha.pe hn hdb he hpl) fun σ H Q ⟨w, S, ρ, ok, en, q⟩ => ?_, mon_cb hc.mono ha.mono⟩
  exact ⟨w, S, ρ, ok, en, ha.mono ρ S _ _ _ _ (fun ds S' q vs w' H' x k r => ⟨w', S', ds, k, r, hc.mono _ _ _ _ (fun d S z => z.ext x) q⟩) (fun _ _ z => z) q⟩
theorem re_callTy {x : Str} {p pos : Pos} {es : List Expr} {T : String} {f : List D → Store → DK → Prop} {m : WA} (hc : CallL G X (.type T) f) (hg : Gl X x) (hm : X.mg x = none) (hv : bootBuiltins x = some (.type T)) (ha : RA G X W (e :: es) m) (hn : x ≠ "__name__" := by decide) (hdb : (x == ("__debug__" : Str)) = false := by decide)
    (he : starEach (e :: es) X.env = (false, eval e X.env) :: starEach es X.env := by rfl) (hpl : (backTo pos (starEach es X.env)).any (·.1) = false := by rfl) : RE G X W (.Call (.Name x p) (e :: es) [] pos) (wCB f m) := by
  refine ⟨PE.imp (pe_callTy hc.run hg hm hv ha.pe hn hdb he hpl) fun σ H Q ⟨w, S, ρ, ok, en, q⟩ => ?_, mon_cb hc.mono ha.mono⟩
  exact ⟨w, S, ρ, ok, en, ha.mono ρ S _ _ _ _ (fun ds S' q vs w' H' x k r => ⟨w', S', ds, k, r, hc.mono _ _ _ _ (fun d S z => z.ext x) q⟩) (fun _ _ z => z) q⟩

/-! ### displays -/
def allP : List D → Option (List P)
  | [] => some []
  | .p d :: ds => (allP ds).map (d :: ·)
  | .cell _ :: _ => none
  | .fn :: _ => none
theorem RepDs.pure {w : Wd} : ∀ {ds : List D} {vs : List V} {ps : List P}, RepDs G w vs ds → allP ds = some ps → Reps G w.I vs ps
  | [], [], _, _, e => by simp [allP] at e; subst e; exact Reps.nil
  | .p d :: ds, v :: vs, _, ⟨h, t⟩, e => by
    simp only [allP, Option.map_eq_some_iff] at e
    obtain ⟨r, e1, rfl⟩ := e
    exact Reps.cons h (RepDs.pure t e1)
  | .cell _ :: _, _, _, _, e => by simp [allP] at e
  | .fn :: _, _, _, _, e => by simp [allP] at e
  | [], _ :: _, _, h, _ => h.elim
  | .p _ :: _, [], _, h, _ => h.elim
def wDisp (mk : List P → P) (m : WA) : WE := fun r S Q E => m r S (fun ds S1 => match allP ds with
  | some ps => ps.length ≤ sizeLine ∧ Q (.p (mk ps)) S1
  | none => False) E
theorem mon_disp (mk : List P → P) {m : WA} (h : MonA m) : Mon (wDisp mk m) := fun r S Q Q' E E' hq he h' => h r S _ _ _ _ (fun d S1 q => by
  try dsimp only at q ⊢
  split at q
  · rename_i ps e
    exact ⟨q.1, hq _ _ q.2⟩
  · exact q.elim) he h'
theorem re_tup {es : List Expr} {k : Nat} {m : WA} (ha : RA G X W es m) : RE G X W (.Tuple es k pos) (wDisp .tup m) := by
  refine ⟨PE.imp (pe_tup ha.pe) fun σ H Q ⟨w, S, ρ, ok, en, q⟩ => ?_, mon_disp _ ha.mono⟩
  refine ⟨w, S, ρ, ok, en, ha.mono ρ S _ _ _ _ (fun ds S' q vs w' H' x k r => ?_) (fun _ _ z => z) q⟩
  try dsimp only at q
  split at q
  · rename_i ps e
    have rp := RepDs.pure r e
    refine ⟨by rw [rp.length]; exact q.1, fun p hp => ?_⟩
    obtain ⟨k2, x2⟩ := k.alloc (o := .tup vs) hp
    refine q.2 (.ref p) _ _ (x.trans x2) k2 ?_
    simp only [RepD, Rep]
    exact ⟨p, vs, rfl, SqT.of upd_same, rp.mono (Same.upd _ (k.freeI hp))⟩
  · exact q.elim
theorem re_lst {es : List Expr} {m : WA} (ha : RA G X W es m) : RE G X W (.List es pos) (wDisp .lst m) := by
  refine ⟨PE.imp (pe_lst ha.pe) fun σ H Q ⟨w, S, ρ, ok, en, q⟩ => ?_, mon_disp _ ha.mono⟩
  refine ⟨w, S, ρ, ok, en, ha.mono ρ S _ _ _ _ (fun ds S' q vs w' H' x k r => ?_) (fun _ _ z => z) q⟩
  try dsimp only at q
  split at q
  · rename_i ps e
    have rp := RepDs.pure r e
    refine ⟨by rw [rp.length]; exact q.1, fun p hp => ?_⟩
    obtain ⟨k2, x2⟩ := k.alloc (o := .lst vs) hp
    refine q.2 (.ref p) _ _ (x.trans x2) k2 ?_
    simp only [RepD, Rep]
    exact ⟨p, vs, rfl, upd_same, rp.mono (Same.upd _ (k.freeI hp))⟩
  · exact q.elim
/-- a list that will change -/
def wNewL (m : WA) : WE := fun r S Q E => m r S (fun ds S1 => match allP ds with
  | some ps => ps.length ≤ sizeLine ∧ Q (.cell S1.length) (S1 ++ [.lst ps])
  | none => False) E
theorem re_newL {es : List Expr} {m : WA} (ha : RA G X W es m) : RE G X W (.List es pos) (wNewL m) := by
  refine ⟨PE.imp (pe_lst ha.pe) fun σ H Q ⟨w, S, ρ, ok, en, q⟩ => ?_, fun r S Q Q' E E' hq he h' => ha.mono r S _ _ _ _ (fun d S1 q => ?_) he h'⟩
  · refine ⟨w, S, ρ, ok, en, ha.mono ρ S _ _ _ _ (fun ds S' q vs w' H' x k r => ?_) (fun _ _ z => z) q⟩
    try dsimp only at q
    split at q
    · rename_i ps e
      have rp := RepDs.pure r e
      refine ⟨by rw [rp.length]; exact q.1, fun p hp => ?_⟩
      obtain ⟨k2, x2⟩ := k.allocC (o := .lst vs) (c := .lst ps) hp ⟨k.freeI hp, vs, upd_same, rp⟩
      refine q.2 (.ref p) _ _ (x.trans x2) k2 ⟨p, rfl, ?_⟩
      show (w'.as ++ [p])[S'.length]? = some p
      rw [← k.len]
      simp
    · exact q.elim
  · try dsimp only at q ⊢
    split at q
    · rename_i ps e
      exact ⟨q.1, hq _ _ q.2⟩
    · exact q.elim
end
end RB
/-! The lifted layer: operators by values, tests, built-ins. -/
namespace RB
open PySem PySem.Spec PyProof.Rows L2

theorem OpR.or {X : Cx} {g : Value → Value → Sem Value} {r r' : R2} (h : OpR X g r) (h' : OpR X g r') : OpR X g (fun x y H Q => r x y H Q ∨ r' x y H Q) := by
  intro pins s σ H x y v u Q I rx ry q
  rcases q with q | q
  · exact h pins s σ H x y v u Q I rx ry q
  · exact h' pins s σ H x y v u Q I rx ry q
theorem OpL.mk' {G : Glob} {X : Cx} {g : Value → Value → Sem Value} {f : D → D → Store → DK → Prop} {r : R2} (h : OpR X g r)
    (i : ∀ x y H Q w S d1 d2, Wok G w S H → RepD G w x d1 → RepD G w y d2 → f d1 d2 S (Qv G w H Q) → r x y H Q) (m : ∀ d1 d2 S Q Q', (∀ d S, Q d S → Q' d S) → f d1 d2 S Q → f d1 d2 S Q') : OpL G X g f :=
  ⟨fun pins s σ H x y v u Q I rx ry ⟨w, S, d1, d2, k, r1, r2, q⟩ => h pins s σ H x y v u Q I rx ry (i x y H Q w S d1 d2 k r1 r2 q), m⟩
section
variable {G : Glob} {w : Wd} {S : Store} {H : Hp} {x : V}
theorem rep_int {i : Int} : RepD G w x (.p (.int i)) ↔ x = .int i := by simp only [RepD, Rep]
theorem rep_str {i : Str} : RepD G w x (.p (.str i)) ↔ x = .str i := by simp only [RepD, Rep]
theorem rep_bl {i : Bool} : RepD G w x (.p (.bl i)) ↔ x = .bl i := by simp only [RepD, Rep]
theorem rep_non : RepD G w x (.p .non) ↔ x = .non := by simp only [RepD, Rep]
theorem rep_ty {n : String} : RepD G w x (.p (.ty n)) ↔ x = .ty n := by simp only [RepD, Rep]
theorem rep_tup {ds : List P} : RepD G w x (.p (.tup ds)) ↔ ∃ a vs, x = .ref a ∧ SqT G.K w.I a vs ∧ Reps G w.I vs ds := by simp only [RepD, Rep]
theorem rep_lst {ds : List P} : RepD G w x (.p (.lst ds)) ↔ ∃ a vs, x = .ref a ∧ w.I a = some (.lst vs) ∧ Reps G w.I vs ds := by simp only [RepD, Rep]
theorem rep_scr {ds : List P} : RepD G w x (.p (.scr ds)) ↔ ∃ a vs, x = .ref a ∧ SqL G.K w.I a vs ∧ Reps G w.I vs ds := by simp only [RepD, Rep]
theorem rep_cell {n : Nat} : RepD G w x (.cell n) ↔ ∃ a, x = .ref a ∧ w.as[n]? = some a := Iff.rfl
theorem Qv.here {Q : VK} {d : D} {v : V} (q : Qv G w H Q d S) (k : Wok G w S H) (r : RepD G w v d) : Q v H := q v w H (Ext.refl w H) k r
/-- a list of the store or of the data -/
def asL (S : Store) : D → Option (List P)
  | .p (.lst ds) => some ds
  | .p (.scr ds) => some ds
  | .cell n => match S[n]? with
    | some (.lst ds) => some ds
    | _ => none
  | _ => none
theorem asL_ok {d : D} {ds : List P} (k : Wok G w S H) (r : RepD G w x d) (h : asL S d = some ds) : ∃ a vs, x = .ref a ∧ SqL G.K H a vs ∧ Reps G w.I vs ds := by
  cases d with
  | p q =>
    cases q <;> simp only [asL] at h <;> first | (cases h; done) | skip
    · cases h
      obtain ⟨a, vs, e, q, rs⟩ := rep_lst.mp r
      exact ⟨a, vs, e, SqL.of (k.sub _ _ q), rs⟩
    · cases h
      obtain ⟨a, vs, e, q, rs⟩ := rep_scr.mp r
      exact ⟨a, vs, e, Same.seq k.sub q, rs⟩
  | fn => simp [asL] at h
  | cell n =>
    obtain ⟨a, e, q⟩ := rep_cell.mp r
    simp only [asL] at h
    split at h
    · rename_i ds' hs
      cases h
      obtain ⟨_, vs, hv, rs⟩ := k.cells n _ a hs q
      exact ⟨a, vs, e, SqL.of hv, rs⟩
    · cases h
/-- .. that is tracked -/
def asM (S : Store) : D → Option (List P)
  | .p (.lst ds) => some ds
  | .cell n => match S[n]? with
    | some (.lst ds) => some ds
    | _ => none
  | _ => none
theorem asM_ok {d : D} {ds : List P} (k : Wok G w S H) (r : RepD G w x d) (h : asM S d = some ds) : ∃ a vs, x = .ref a ∧ H a = some (.lst vs) ∧ Reps G w.I vs ds := by
  cases d with
  | p q =>
    cases q <;> simp only [asM] at h <;> first | (cases h; done) | skip
    · cases h
      obtain ⟨a, vs, e, q, rs⟩ := rep_lst.mp r
      exact ⟨a, vs, e, k.sub _ _ q, rs⟩
  | fn => simp [asM] at h
  | cell n =>
    obtain ⟨a, e, q⟩ := rep_cell.mp r
    simp only [asM] at h
    split at h
    · rename_i ds' hs
      cases h
      obtain ⟨_, vs, hv, rs⟩ := k.cells n _ a hs q
      exact ⟨a, vs, e, hv, rs⟩
    · cases h
/-- a new list, a new tuple -/
theorem new_lst {Q : VK} {ps : List P} {vs : List V} {p : Addr} (k : Wok G w S H) (q : Qv G w H Q (.p (.lst ps)) S) (r : Reps G w.I vs ps) (hp : H p = none) : Q (.ref p) (upd H p (.lst vs)) := by
  obtain ⟨k2, x2⟩ := k.alloc (o := .lst vs) hp
  exact q (.ref p) _ _ x2 k2 (rep_lst.mpr ⟨p, vs, rfl, upd_same, r.mono (Same.upd _ (k.freeI hp))⟩)
theorem new_tup {Q : VK} {ps : List P} {vs : List V} {p : Addr} (k : Wok G w S H) (q : Qv G w H Q (.p (.tup ps)) S) (r : Reps G w.I vs ps) (hp : H p = none) : Q (.ref p) (upd H p (.tup vs)) := by
  obtain ⟨k2, x2⟩ := k.alloc (o := .tup vs) hp
  exact q (.ref p) _ _ x2 k2 (rep_tup.mpr ⟨p, vs, rfl, SqT.of upd_same, r.mono (Same.upd _ (k.freeI hp))⟩)
end

/-! ### arithmetic -/
def dAdd (d1 d2 : D) (S : Store) (Q : DK) : Prop := match d1, d2 with
  | .p (.int i), .p (.int j) => Q (.p (.int (i + j))) S
  | .p (.str a), .p (.str b) => a.length + b.length ≤ sizeLine ∧ Q (.p (.str (a ++ b))) S
  | .p (.tup a), .p (.tup b) => a.length + b.length ≤ sizeLine ∧ Q (.p (.tup (a ++ b))) S
  | d1, d2 => match asM S d1, asM S d2 with
    | some a, some b => a.length + b.length ≤ sizeLine ∧ Q (.p (.lst (a ++ b))) S
    | _, _ => False
section
variable {G : Glob} {X : Cx} {W : WX}
theorem ol_add (hK : X.K = G.K) : OpL G X (binaryOp .Add) dAdd := by
  refine OpL.mk' (OpR.or op_add (OpR.or op_add_str (OpR.or op_catA op_cat))) (fun x y H Q w S d1 d2 k r1 r2 h => ?_) (fun d1 d2 S Q Q' hq h => ?_)
  · unfold dAdd at h
    split at h
    · rw [rep_int] at r1 r2
      exact .inl ⟨_, _, r1, r2, h.here k (rep_int.mpr rfl)⟩
    · rw [rep_str] at r1 r2
      exact .inr (.inl ⟨_, _, r1, r2, h.1, h.2.here k (rep_str.mpr rfl)⟩)
    · obtain ⟨a, xs, rfl, q1, s1⟩ := rep_tup.mp r1
      obtain ⟨b, ys, rfl, q2, s2⟩ := rep_tup.mp r2
      have l1 := s1.length
      have l2 := s2.length
      refine .inr (.inr (.inl ⟨a, b, xs, ys, rfl, rfl, hK ▸ Same.tup k.sub q1, hK ▸ Same.tup k.sub q2, by omega, fun e => ?_, fun _ e => ?_, fun _ _ p hp => new_tup k h.2 (s1.append s2) hp⟩))
      · subst e
        exact h.2.here k (rep_tup.mpr ⟨b, ys, rfl, q2, s1.append s2⟩)
      · subst e
        refine h.2.here k (rep_tup.mpr ⟨a, xs, rfl, q1, ?_⟩)
        have : xs = xs ++ [] := by simp
        rw [this]
        exact s1.append s2
    · split at h
      · rename_i a b e1 e2
        obtain ⟨l, xs, rfl, q1, s1⟩ := asM_ok k r1 e1
        obtain ⟨m, ys, rfl, q2, s2⟩ := asM_ok k r2 e2
        have l1 := s1.length
        have l2 := s2.length
        exact .inr (.inr (.inr ⟨l, m, xs, ys, rfl, rfl, q1, q2, by omega, fun p hp => new_lst k h.2 (s1.append s2) hp⟩))
      · exact h.elim
  · unfold dAdd at h ⊢
    split at h
    · exact hq _ _ h
    · exact ⟨h.1, hq _ _ h.2⟩
    · exact ⟨h.1, hq _ _ h.2⟩
    · rename_i h1 h2 h3
      split at h
      · rename_i a b e1 e2
        exact ⟨h.1, hq _ _ h.2⟩
      · exact h.elim
/-- of two ints -/
def dInt (C : Int → Int → Prop) (g : Int → Int → P) (d1 d2 : D) (S : Store) (Q : DK) : Prop := match d1, d2 with
  | .p (.int i), .p (.int j) => C i j ∧ Q (.p (g i j)) S
  | _, _ => False
theorem dInt_mono {C : Int → Int → Prop} {g : Int → Int → P} (d1 d2 : D) (S : Store) (Q Q' : DK) (hq : ∀ d S, Q d S → Q' d S) (h : dInt C g d1 d2 S Q) : dInt C g d1 d2 S Q' := by
  unfold dInt at h ⊢
  split at h
  · exact ⟨h.1, hq _ _ h.2⟩
  · exact h.elim
theorem ol_int {g : Value → Value → Sem Value} {C : Int → Int → Prop} {f : Int → Int → P} {fv : Int → Int → V} (h : OpR X g (rI C fv)) (hf : ∀ w i j, RepD G w (fv i j) (.p (f i j))) : OpL G X g (dInt C f) := by
  refine OpL.mk' h (fun x y H Q w S d1 d2 k r1 r2 h => ?_) dInt_mono
  unfold dInt at h
  split at h
  · rw [rep_int] at r1 r2
    exact ⟨_, _, r1, r2, h.1, h.2.here k (hf _ _ _)⟩
  · exact h.elim
theorem ol_int0 {g : Value → Value → Sem Value} {f : Int → Int → P} {fv : Int → Int → V} (h : OpR X g (rI0 fv)) (hf : ∀ w i j, RepD G w (fv i j) (.p (f i j))) : OpL G X g (dInt (fun _ _ => True) f) := by
  refine OpL.mk' h (fun x y H Q w S d1 d2 k r1 r2 h => ?_) dInt_mono
  unfold dInt at h
  split at h
  · rw [rep_int] at r1 r2
    exact ⟨_, _, r1, r2, h.2.here k (hf _ _ _)⟩
  · exact h.elim
theorem ol_sub : OpL G X (binaryOp .Sub) (dInt (fun _ _ => True) fun i j => .int (i - j)) := ol_int0 op_sub fun _ _ _ => rep_int.mpr rfl
theorem ol_fdiv : OpL G X (binaryOp .FloorDiv) (dInt CDivW fun i j => .int (i / j)) := ol_int op_fdivW fun _ _ _ => rep_int.mpr rfl
theorem ol_mod : OpL G X (binaryOp .Mod) (dInt (fun _ j => 0 < j) fun i j => .int (i % j)) := ol_int op_mod fun _ _ _ => rep_int.mpr rfl
theorem ol_pow : OpL G X (binaryOp .Pow) (dInt CPow fun i j => .int (i ^ j.toNat)) := ol_int op_pow fun _ _ _ => rep_int.mpr rfl
def dMul (d1 d2 : D) (S : Store) (Q : DK) : Prop := match d1, d2 with
  | .p (.int i), .p (.int j) => (CMul i j ∨ CMulW i j) ∧ Q (.p (.int (i * j))) S
  | d1, .p (.int j) => match asM S d1 with
    | some a => -(2 ^ 63) ≤ j ∧ j < 2 ^ 63 ∧ a.length * j.toNat ≤ sizeLine ∧ Q (.p (.lst (List.replicate j.toNat a).flatten)) S
    | none => False
  | _, _ => False
theorem Reps.rep {I : Hp} {vs : List V} {ds : List P} (r : Reps G I vs ds) : ∀ n : Nat, Reps G I (List.replicate n vs).flatten (List.replicate n ds).flatten
  | 0 => Reps.nil
  | n + 1 => by
    rw [List.replicate_succ, List.replicate_succ, List.flatten_cons, List.flatten_cons]
    exact r.append (Reps.rep r n)
theorem ol_mul : OpL G X (binaryOp .Mult) dMul := by
  refine OpL.mk' (OpR.or op_mul (OpR.or op_mulW op_rep)) (fun x y H Q w S d1 d2 k r1 r2 h => ?_) (fun d1 d2 S Q Q' hq h => ?_)
  · unfold dMul at h
    split at h
    · rw [rep_int] at r1 r2
      obtain ⟨c | c, h⟩ := h
      · exact .inl ⟨_, _, r1, r2, c, h.here k (rep_int.mpr rfl)⟩
      · exact .inr (.inl ⟨_, _, r1, r2, c, h.here k (rep_int.mpr rfl)⟩)
    · split at h
      · rename_i a e1
        obtain ⟨l, xs, rfl, q1, s1⟩ := asM_ok k r1 e1
        rw [rep_int] at r2
        obtain ⟨h1, h2, h3, h4⟩ := h
        exact .inr (.inr ⟨l, _, xs, rfl, r2, q1, h1, h2, by rw [s1.length]; exact h3, fun p hp => new_lst k h4 (s1.rep _) hp⟩)
      · exact h.elim
    · exact h.elim
  · unfold dMul at h ⊢
    split at h
    · exact ⟨h.1, hq _ _ h.2⟩
    · split at h
      · exact ⟨h.1, h.2.1, h.2.2.1, hq _ _ h.2.2.2⟩
      · exact h.elim
    · exact h.elim
def dNeg (d : D) (S : Store) (Q : DK) : Prop := match d with
  | .p (.int i) => Q (.p (.int (-i))) S
  | _ => False
theorem ul_neg : UnL G X (unaryOp .USub) dNeg := by
  refine ⟨fun pins s σ H x v Q I rx ⟨w, S, d, k, r, h⟩ => ?_, fun d S Q Q' hq h => ?_⟩
  · unfold dNeg at h
    split at h
    · rw [rep_int] at r
      exact un_neg pins s σ H x v Q I rx ⟨_, r, h.here k (rep_int.mpr rfl)⟩
    · exact h.elim
  · unfold dNeg at h ⊢
    split at h
    · exact hq _ _ h
    · exact h.elim

/-! ### comparisons -/
theorem ol_lt : OpL G X (compareOp .Lt) (dInt (fun _ _ => True) fun i j => .bl (decide (i < j))) := ol_int0 op_lt fun _ _ _ => rep_bl.mpr rfl
theorem ol_le : OpL G X (compareOp .LtE) (dInt (fun _ _ => True) fun i j => .bl (decide (i ≤ j))) := ol_int0 op_le fun _ _ _ => rep_bl.mpr rfl
theorem ol_gt : OpL G X (compareOp .Gt) (dInt (fun _ _ => True) fun i j => .bl (decide (j < i))) := ol_int0 op_gt fun _ _ _ => rep_bl.mpr rfl
theorem ol_ge : OpL G X (compareOp .GtE) (dInt (fun _ _ => True) fun i j => .bl (decide (j ≤ i))) := ol_int0 op_ge fun _ _ _ => rep_bl.mpr rfl
mutual
/-- as the library's data -/
def pd : P → Option PyData
  | .non => some .none
  | .bl b => some (.bool b)
  | .int i => some (.int i)
  | .str x => some (.str x)
  | .lst xs => (pds xs).map .list
  | .scr xs => (pds xs).map .list
  | .tup xs => (pds xs).map .tuple
  | .ty _ | .dK _ _ | .dT _ _ | .obj _ _ _ => none
def pds : List P → Option (List PyData)
  | [] => some []
  | d :: ds => match pd d, pds ds with
    | some x, some xs => some (x :: xs)
    | _, _ => none
end
mutual
theorem pd_ok {K : PySem.W.Frag} (hK : G.K = K) {I H : Hp} (s : Same I H) : ∀ {d : P} {v : V} {e : PyData}, Rep G I v d → pd d = some e → Dp K H v e
  | .non, _, _, h, q => by simp only [Rep, pd] at h q; cases q; subst h; exact .non
  | .bl _, _, _, h, q => by simp only [Rep, pd] at h q; cases q; subst h; exact .bl _
  | .int _, _, _, h, q => by simp only [Rep, pd] at h q; cases q; subst h; exact .int _
  | .str _, _, _, h, q => by simp only [Rep, pd] at h q; cases q; subst h; exact .str _
  | .lst ds, _, _, h, q => by
    simp only [Rep, pd, Option.map_eq_some_iff] at h q
    obtain ⟨a, vs, e, z, r⟩ := h
    obtain ⟨es, e1, e2⟩ := q
    subst e; subst e2
    exact .lst (SqL.of (s _ _ z)) (pds_ok hK s r e1)
  | .scr ds, _, _, h, q => by
    simp only [Rep, pd, Option.map_eq_some_iff] at h q
    obtain ⟨a, vs, e, z, r⟩ := h
    obtain ⟨es, e1, e2⟩ := q
    subst e; subst e2
    exact .lst (Same.seq s (hK ▸ z)) (pds_ok hK s r e1)
  | .tup ds, _, _, h, q => by
    simp only [Rep, pd, Option.map_eq_some_iff] at h q
    obtain ⟨a, vs, e, z, r⟩ := h
    obtain ⟨es, e1, e2⟩ := q
    subst e; subst e2
    exact .tup (Same.tup s (hK ▸ z)) (pds_ok hK s r e1)
  | .ty _, _, _, _, q => by simp [pd] at q
  | .dK _ _, _, _, _, q => by simp [pd] at q
  | .dT _ _, _, _, _, q => by simp [pd] at q
  | .obj _ _ _, _, _, _, q => by simp [pd] at q
theorem pds_ok {K : PySem.W.Frag} (hK : G.K = K) {I H : Hp} (s : Same I H) : ∀ {ds : List P} {vs : List V} {es : List PyData}, Reps G I vs ds → pds ds = some es → DpAll K H vs es
  | [], _, _, h, q => by simp only [Reps, pds] at h q; cases q; subst h; exact .nil
  | d :: ds, _, _, h, q => by
    simp only [Reps, pds] at h q
    obtain ⟨v, r, e, h1, h2⟩ := h
    subst e
    split at q
    · rename_i x xs e1 e2
      cases q
      exact .cons (pd_ok hK s h1 e1) (pds_ok hK s h2 e2)
    · cases q
end
def pdD (S : Store) : D → Option PyData
  | .p d => pd d
  | .cell n => match S[n]? with
    | some (.lst ds) => (pds ds).map .list
    | _ => none
  | .fn => none
theorem pdD_ok {K : PySem.W.Frag} (hK : G.K = K) {w : Wd} {S : Store} {H : Hp} (k : Wok G w S H) {d : D} {v : V} {e : PyData} (r : RepD G w v d) (q : pdD S d = some e) : Dp K H v e := by
  cases d with
  | p d => exact pd_ok hK k.sub r q
  | fn => simp [pdD] at q
  | cell n =>
    obtain ⟨a, e1, z⟩ := rep_cell.mp r
    simp only [pdD] at q
    split at q
    · rename_i ds hs
      obtain ⟨_, vs, hv, rs⟩ := k.cells n _ a hs z
      rw [Option.map_eq_some_iff] at q
      obtain ⟨es, e2, e3⟩ := q
      subst e1; subst e3
      exact .lst (SqL.of hv) (pds_ok hK k.sub rs e2)
    · cases q
def dEqv (neg : Bool) (d1 d2 : D) (S : Store) (Q : DK) : Prop := match pdD S d1, pdD S d2 with
  | some e1, some e2 => SeqAt.shaped e1 = true ∧ SeqAt.shaped e2 = true ∧ Q (.p (.bl (if neg then !PyData.eqv e1 e2 else PyData.eqv e1 e2))) S
  | _, _ => False
theorem dEqv_mono (neg : Bool) (d1 d2 : D) (S : Store) (Q Q' : DK) (hq : ∀ d S, Q d S → Q' d S) (h : dEqv neg d1 d2 S Q) : dEqv neg d1 d2 S Q' := by
  unfold dEqv at h ⊢
  split at h
  · exact ⟨h.1, h.2.1, hq _ _ h.2.2⟩
  · exact h.elim
theorem ol_eq (hK : X.K = G.K) (hu : X.A.units + 64 < cLine) : OpL G X (compareOp .Eq) (dEqv false) := by
  refine OpL.mk' (op_eqD hu) (fun x y H Q w S d1 d2 k r1 r2 h => ?_) (dEqv_mono _)
  unfold dEqv at h
  split at h
  · rename_i e1 e2 q1 q2
    exact ⟨e1, e2, pdD_ok hK.symm k r1 q1, pdD_ok hK.symm k r2 q2, h.1, h.2.1, h.2.2.here k (rep_bl.mpr rfl)⟩
  · exact h.elim
theorem ol_ne (hK : X.K = G.K) (hu : X.A.units + 64 < cLine) : OpL G X (compareOp .NotEq) (dEqv true) := by
  refine OpL.mk' (op_neD hu) (fun x y H Q w S d1 d2 k r1 r2 h => ?_) (dEqv_mono _)
  unfold dEqv at h
  split at h
  · rename_i e1 e2 q1 q2
    exact ⟨e1, e2, pdD_ok hK.symm k r1 q1, pdD_ok hK.symm k r2 q2, h.1, h.2.1, h.2.2.here k (rep_bl.mpr rfl)⟩
  · exact h.elim
/-- is None, is not None -/
def isNon : D → Bool
  | .p .non => true
  | _ => false
theorem isNon_ok {w : Wd} {x : V} {d : D} (r : RepD G w x d) : decide (x = .non) = isNon d := by
  cases d with
  | cell n => obtain ⟨a, rfl, _⟩ := rep_cell.mp r; rfl
  | fn =>
    have r : x = .ref G.fa := r
    subst r
    rfl
  | p q =>
    cases q <;> simp only [RepD, Rep] at r
    · subst r; rfl
    · subst r; rfl
    · subst r; rfl
    · subst r; rfl
    · subst r; rfl
    · obtain ⟨a, _, rfl, _⟩ := r; rfl
    · obtain ⟨a, _, rfl, _⟩ := r; rfl
    · obtain ⟨a, _, rfl, _⟩ := r; rfl
    · obtain ⟨a, _, rfl, _⟩ := r; rfl
    · obtain ⟨a, _, rfl, _⟩ := r; rfl
    · obtain ⟨a, _, _, rfl, _⟩ := r; rfl
def dIsN (neg : Bool) (d1 d2 : D) (S : Store) (Q : DK) : Prop := match d2 with
  | .p .non => Q (.p (.bl (if neg then !isNon d1 else isNon d1))) S
  | .p (.bl b) => match d1 with
    | .p (.bl a) => neg = false ∧ Q (.p (.bl (decide (a = b)))) S
    | _ => False
  | _ => False
theorem dIsN_mono (neg : Bool) (d1 d2 : D) (S : Store) (Q Q' : DK) (hq : ∀ d S, Q d S → Q' d S) (h : dIsN neg d1 d2 S Q) : dIsN neg d1 d2 S Q' := by
  unfold dIsN at h ⊢
  split at h
  · exact hq _ _ h
  · split at h
    · exact ⟨h.1, hq _ _ h.2⟩
    · exact h.elim
  · exact h.elim
theorem ol_notN : OpL G X (compareOp .IsNot) (dIsN true) := by
  refine OpL.mk' op_notN (fun x y H Q w S d1 d2 k r1 r2 h => ?_) (dIsN_mono _)
  unfold dIsN at h
  split at h
  · exact ⟨rep_non.mp r2, by rw [isNon_ok r1]; exact h.here k (rep_bl.mpr rfl)⟩
  · split at h
    · cases h.1
    · exact h.elim
  · exact h.elim
end
end RB
/-! The lifted layer: tests, parts of sequences, dicts, built-ins. -/
namespace RB
open PySem PySem.Spec PyProof.Rows L2
section
variable {G : Glob} {X : Cx} {W : WX} {e a b c : Expr} {pos : Pos}

/-! ### tests -/
def wTest (m : WE) : WT := fun r S Q E => m r S (fun d S1 => match d with
  | .p (.bl b) => Q b S1
  | _ => False) E
theorem mon_test {m : WE} (h : Mon m) : MonT (wTest m) := fun r S Q Q' E E' hq he h' => h r S _ _ _ _ (fun d S1 q => by
  split at q
  · exact hq _ _ q
  · exact q.elim) he h'
theorem tM.test {m : WE} (hm : Mon m) {σ : L2.St} {H : Hp} {Q : Bool → Hp → Prop} (h : tMt G W (wTest m) σ H Q) : tM G W m σ H fun x H' => ∃ k, x = .bl k ∧ Q k H' := by
  obtain ⟨w, S, ρ, ok, en, q⟩ := h
  refine tM.bind hm ok en q (fun _ _ _ z => z) fun d S' v w' H' x k r q => ?_
  split at q
  · exact ⟨_, rep_bl.mp r, q w' H' x k⟩
  · exact q.elim
theorem rt_val {m : WE} (h : RE G X W e m) (he : ∀ whole, isTrue e X.env whole = (do let v ← whole; standAt e.pos; holding [v] (truthy v)) := by intro _; rfl) : RT G X W e (wTest m) :=
  ⟨PT.imp (pt_val h.pe he) fun σ H Q q => tM.test h.mono q, mon_test h.mono⟩
theorem rt_cmp {op : CmpOp} {f : D → D → Store → DK → Prop} (ho : OpL G X (compareOp op) f) {m1 m2 : WE} (ha : RE G X W a m1) (hb : RE G X W b m2) (hm : behindInMarks op b = false) : RT G X W (.Compare a [op] [b] pos) (wTest (wBin f m1 m2)) := by
  refine ⟨PT.imp (pt_cmpR ho.run ha.pe hb.pe hm) fun σ H Q ⟨w, S, ρ, ok, en, q⟩ => ?_, mon_test (mon_bin ho.mono ha.mono hb.mono)⟩
  refine tM2 ha.mono hb.mono ok en q fun d1 d2 S' x y w' H' x1 k r1 r2 q => ⟨w', S', d1, d2, k, r1, r2, ho.mono _ _ _ _ _ (fun d S z v w2 H2 x2 k2 r => ?_) q⟩
  split at z
  · exact ⟨_, rep_bl.mp r, z w2 H2 (x1.trans x2) k2⟩
  · exact z.elim
structure RW (G : Glob) (X : Cx) (W : WX) (e : Expr) (m : WT) : Prop where
  pw : PW X e (tMt G W m)
  mono : MonT m
theorem PW.imp {X : Cx} {e : Expr} {t u : TT} (h : PW X e t) (i : ∀ σ H Q, u σ H Q → t σ H Q) : PW X e u := ⟨fun wh pins s σ H Q I q => h.run wh pins s σ H Q I (i σ H Q q)⟩
theorem RW.rt {m : WT} (h : RW G X W e m) : RT G X W e m := ⟨h.pw.pt, h.mono⟩
def wAnd (t u : WT) : WT := fun r S Q E => t r S (fun b S1 => if b = true then u r S1 Q E else Q false S1) E
def wOr (t u : WT) : WT := fun r S Q E => t r S (fun b S1 => if b = true then Q true S1 else u r S1 Q E) E
def wNot (t : WT) : WT := fun r S Q E => t r S (fun b S1 => Q (!b) S1) E
theorem mon_and {t u : WT} (h1 : MonT t) (h2 : MonT u) : MonT (wAnd t u) := fun r S Q Q' E E' hq he h => h1 r S _ _ _ _ (fun b S1 q => by
  split at q
  · rename_i hb; rw [if_pos hb]; exact h2 r S1 _ _ _ _ hq he q
  · rename_i hb; rw [if_neg hb]; exact hq _ _ q) he h
theorem mon_or {t u : WT} (h1 : MonT t) (h2 : MonT u) : MonT (wOr t u) := fun r S Q Q' E E' hq he h => h1 r S _ _ _ _ (fun b S1 q => by
  split at q
  · rename_i hb; rw [if_pos hb]; exact hq _ _ q
  · rename_i hb; rw [if_neg hb]; exact h2 r S1 _ _ _ _ hq he q) he h
theorem tMt.bind {m : WT} (hm : MonT m) {σ : L2.St} {H : Hp} {w : Wd} {S : Store} {r : Rho} {k : Bool → Store → Prop} {E : XK} {Q : Bool → Hp → Prop} (ok : Wok G w S H) (en : EnvOk G w σ r) (h : m r S k (Qx G w H E)) (hE : ∀ c d H', E c d H' → W c d σ H')
    (hk : ∀ b S' w' H', Ext w H w' H' → Wok G w' S' H' → k b S' → Q b H') : tMt G W m σ H Q :=
  ⟨w, S, r, ok, en, hm r S _ _ _ _ (fun d S' q w' H' x k => hk d S' w' H' x k q) (fun x S' q c d w' H' x k r => hE _ _ _ (q c d w' H' x k r)) h⟩
variable {rest : List Expr}
theorem rw_and1 {t : WT} (ha : RT G X W a t) : RW G X W (.BoolOp .And [a] pos) t := ⟨pw_and1 ha.pe, ha.mono⟩
theorem rw_or1 {t : WT} (ha : RT G X W a t) : RW G X W (.BoolOp .Or [a] pos) t := ⟨pw_or1 ha.pe, ha.mono⟩
theorem rw_and {t u : WT} (ha : RT G X W a t) (hb : RW G X W (.BoolOp .And (b :: rest) pos) u) : RW G X W (.BoolOp .And (a :: b :: rest) pos) (wAnd t u) := by
  refine ⟨PW.imp (pw_and ha.pe hb.pw) fun σ H Q ⟨w, S, ρ, ok, en, q⟩ => ?_, mon_and ha.mono hb.mono⟩
  refine tMt.bind ha.mono ok en q (fun _ _ _ z => z) fun b S' w' H' x k q => ?_
  split at q
  · rename_i hb'; rw [if_pos hb']; exact ⟨w', S', ρ, k, en.mono x, hb.mono ρ S' _ _ _ _ (fun d S z => z.ext x) (fun y S' q => q.ext x) q⟩
  · rename_i hb'; rw [if_neg hb']; exact q w' H' x k
theorem rw_or {t u : WT} (ha : RT G X W a t) (hb : RW G X W (.BoolOp .Or (b :: rest) pos) u) : RW G X W (.BoolOp .Or (a :: b :: rest) pos) (wOr t u) := by
  refine ⟨PW.imp (pw_or ha.pe hb.pw) fun σ H Q ⟨w, S, ρ, ok, en, q⟩ => ?_, mon_or ha.mono hb.mono⟩
  refine tMt.bind ha.mono ok en q (fun _ _ _ z => z) fun b S' w' H' x k q => ?_
  split at q
  · rename_i hb'; rw [if_pos hb']; exact q w' H' x k
  · rename_i hb'; rw [if_neg hb']; exact ⟨w', S', ρ, k, en.mono x, hb.mono ρ S' _ _ _ _ (fun d S z => z.ext x) (fun y S' q => q.ext x) q⟩
theorem rt_not {t : WT} (ha : RT G X W a t) : RT G X W (.UnaryOp .Not a pos) (wNot t) := by
  refine ⟨PT.imp (pt_not ha.pe) fun σ H Q ⟨w, S, ρ, ok, en, q⟩ => ?_, fun r S Q Q' E E' hq he h => ha.mono r S _ _ _ _ (fun b S1 q => hq _ _ q) he h⟩
  exact tMt.bind ha.mono ok en q (fun _ _ _ z => z) fun b S' w' H' x k q => q w' H' x k
/-! as values -/
def wAndV (m1 m2 : WE) : WE := fun r S Q E => m1 r S (fun d S1 => match d with
  | .p (.bl true) => m2 r S1 Q E
  | .p (.bl false) => Q (.p (.bl false)) S1
  | _ => False) E
def wOrV (m1 m2 : WE) : WE := fun r S Q E => m1 r S (fun d S1 => match d with
  | .p (.bl true) => Q (.p (.bl true)) S1
  | .p (.bl false) => m2 r S1 Q E
  | _ => False) E
theorem re_one {op} {m : WE} (h : RE G X W a m) : RE G X W (.BoolOp op [a] pos) m := ⟨pe_one h.pe, h.mono⟩
theorem re_and {m1 m2 : WE} (ha : RE G X W a m1) (hb : RE G X W (.BoolOp .And (b :: rest) pos) m2) : RE G X W (.BoolOp .And (a :: b :: rest) pos) (wAndV m1 m2) := by
  refine ⟨PE.imp (pe_and ha.pe hb.pe) fun σ H Q ⟨w, S, ρ, ok, en, q⟩ => ?_, fun r S Q Q' E E' hq he h => ha.mono r S _ _ _ _ (fun d S1 q => ?_) he h⟩
  · refine tM.bind ha.mono ok en q (fun _ _ _ z => z) fun d S' v w' H' x k r q => ?_
    split at q
    · exact ⟨true, rep_bl.mp r, iteT ⟨w', S', ρ, k, en.mono x, hb.mono ρ S' _ _ _ _ (fun d S z => z.ext x) (fun y S' q => q.ext x) q⟩⟩
    · exact ⟨false, rep_bl.mp r, iteF (q _ w' H' x k (rep_bl.mpr rfl))⟩
    · exact q.elim
  · split at q
    · exact hb.mono r S1 _ _ _ _ hq he q
    · exact hq _ _ q
    · exact q.elim
theorem re_or {m1 m2 : WE} (ha : RE G X W a m1) (hb : RE G X W (.BoolOp .Or (b :: rest) pos) m2) : RE G X W (.BoolOp .Or (a :: b :: rest) pos) (wOrV m1 m2) := by
  refine ⟨PE.imp (pe_or ha.pe hb.pe) fun σ H Q ⟨w, S, ρ, ok, en, q⟩ => ?_, fun r S Q Q' E E' hq he h => ha.mono r S _ _ _ _ (fun d S1 q => ?_) he h⟩
  · refine tM.bind ha.mono ok en q (fun _ _ _ z => z) fun d S' v w' H' x k r q => ?_
    split at q
    · exact ⟨true, rep_bl.mp r, iteT (q _ w' H' x k (rep_bl.mpr rfl))⟩
    · exact ⟨false, rep_bl.mp r, iteF ⟨w', S', ρ, k, en.mono x, hb.mono ρ S' _ _ _ _ (fun d S z => z.ext x) (fun y S' q => q.ext x) q⟩⟩
    · exact q.elim
  · split at q
    · exact hq _ _ q
    · exact hb.mono r S1 _ _ _ _ hq he q
    · exact q.elim
def wNotV (m : WE) : WE := fun r S Q E => m r S (fun d S1 => match d with
  | .p (.bl b) => Q (.p (.bl (!b))) S1
  | _ => False) E
theorem re_not {m : WE} (ha : RE G X W a m) : RE G X W (.UnaryOp .Not a pos) (wNotV m) := by
  refine ⟨PE.imp (pe_not ha.pe) fun σ H Q ⟨w, S, ρ, ok, en, q⟩ => ?_, fun r S Q Q' E E' hq he h => ha.mono r S _ _ _ _ (fun d S1 q => ?_) he h⟩
  · refine tM.bind ha.mono ok en q (fun _ _ _ z => z) fun d S' v w' H' x k r q => ?_
    split at q
    · exact ⟨_, rep_bl.mp r, q _ w' H' x k (rep_bl.mpr rfl)⟩
    · exact q.elim
  · split at q
    · exact hq _ _ q
    · exact q.elim
def wIf (t : WT) (m1 m2 : WE) : WE := fun r S Q E => t r S (fun b S1 => if b = true then m1 r S1 Q E else m2 r S1 Q E) E
theorem re_ifx {t : WT} {m1 m2 : WE} (hc : RT G X W c t) (ha : RE G X W a m1) (hb : RE G X W b m2) : RE G X W (.IfExp c a b pos) (wIf t m1 m2) := by
  refine ⟨PE.imp (pe_ifExp hc.pe ha.pe hb.pe) fun σ H Q ⟨w, S, ρ, ok, en, q⟩ => ?_, fun r S Q Q' E E' hq he h => hc.mono r S _ _ _ _ (fun d S1 q => ?_) he h⟩
  · refine tMt.bind hc.mono ok en q (fun _ _ _ z => z) fun b S' w' H' x k q => ?_
    split at q
    · rename_i hb'; rw [if_pos hb']; exact ⟨w', S', ρ, k, en.mono x, ha.mono ρ S' _ _ _ _ (fun d S z => z.ext x) (fun y S' q => q.ext x) q⟩
    · rename_i hb'; rw [if_neg hb']; exact ⟨w', S', ρ, k, en.mono x, hb.mono ρ S' _ _ _ _ (fun d S z => z.ext x) (fun y S' q => q.ext x) q⟩
  · split at q
    · rename_i z; rw [if_pos z]; exact ha.mono r S1 _ _ _ _ hq he q
    · rename_i z; rw [if_neg z]; exact hb.mono r S1 _ _ _ _ hq he q
/-! a op b op c -/
def wChain (f g : D → D → Store → DK → Prop) (m1 m2 m3 : WE) : WE := fun r S Q E => m1 r S (fun d1 S1 => m2 r S1 (fun d2 S2 => f d1 d2 S2 (fun z S3 => match z with
  | .p (.bl true) => m3 r S3 (fun d3 S4 => g d2 d3 S4 Q) E
  | .p (.bl false) => Q (.p (.bl false)) S3
  | _ => False)) E) E
theorem mon_chain {f g : D → D → Store → DK → Prop} (hf : ∀ d1 d2 S Q Q', (∀ d S, Q d S → Q' d S) → f d1 d2 S Q → f d1 d2 S Q') (hg : ∀ d1 d2 S Q Q', (∀ d S, Q d S → Q' d S) → g d1 d2 S Q → g d1 d2 S Q') {m1 m2 m3 : WE} (h1 : Mon m1) (h2 : Mon m2) (h3 : Mon m3) : Mon (wChain f g m1 m2 m3) := fun r S Q Q' E E' hq he h =>
  h1 r S _ _ _ _ (fun d1 S1 q1 => h2 r S1 _ _ _ _ (fun d2 S2 q2 => hf _ _ _ _ _ (fun z S3 q3 => by
    split at q3
    · exact h3 r S3 _ _ _ _ (fun d3 S4 q4 => hg _ _ _ _ _ hq q4) he q3
    · exact hq _ _ q3
    · exact q3.elim) q2) he q1) he h
theorem chain_in {op op' : CmpOp} {f g : D → D → Store → DK → Prop} (ho : OpL G X (compareOp op) f) (ho' : OpL G X (compareOp op') g) {m1 m2 m3 : WE} (h1 : Mon m1) (h2 : Mon m2) (h3 : Mon m3) {σ : L2.St} {H : Hp} {Q : VK} (h : tM G W (wChain f g m1 m2 m3) σ H Q) :
    tChain (fun x y H Q => ∃ w S d1 d2, Wok G w S H ∧ RepD G w x d1 ∧ RepD G w y d2 ∧ f d1 d2 S (Qv G w H Q)) (fun x y H Q => ∃ w S d1 d2, Wok G w S H ∧ RepD G w x d1 ∧ RepD G w y d2 ∧ g d1 d2 S (Qv G w H Q)) (tM G W m1) (tM G W m2) (tM G W m3) σ H Q := by
  obtain ⟨w, S, ρ, ok, en, q⟩ := h
  refine tM2 h1 h2 ok en q fun d1 d2 S' x y w' H' x1 k r1 r2 q => ⟨w', S', d1, d2, k, r1, r2, ho.mono _ _ _ _ _ (fun z S3 q3 v w3 H3 x3 k3 r3 => ?_) q⟩
  split at q3
  · refine ⟨true, rep_bl.mp r3, iteT ?_⟩
    refine ⟨w3, S3, ρ, k3, en.mono (x1.trans x3), h3 ρ S3 _ _ _ _ (fun d3 S4 q4 u w4 H4 x4 k4 r4 => ?_) (fun y S' q => q.ext (x1.trans x3)) q3⟩
    exact ⟨w4, S4, d2, d3, k4, r2.mono (x3.trans x4), r4, ho'.mono _ _ _ _ _ (fun d S z => z.ext ((x1.trans x3).trans x4)) q4⟩
  · exact ⟨false, rep_bl.mp r3, iteF (q3 _ w3 H3 (x1.trans x3) k3 (rep_bl.mpr rfl))⟩
  · exact q3.elim
theorem re_chain {op op' : CmpOp} {f g : D → D → Store → DK → Prop} (ho : OpL G X (compareOp op) f) (ho' : OpL G X (compareOp op') g) {m1 m2 m3 : WE} (ha : RE G X W a m1) (hb : RE G X W b m2) (hc : RE G X W c m3) (hm : lastMarks [op, op'] [b, c] = false := by with_unfolding_all rfl) :
    RE G X W (.Compare a [op, op'] [b, c] pos) (wChain f g m1 m2 m3) :=
  ⟨PE.imp (pe_chain ho.run ho'.run ha.pe hb.pe hc.pe hm) fun σ H Q h => chain_in ho ho' ha.mono hb.mono hc.mono h, mon_chain ho.mono ho'.mono ha.mono hb.mono hc.mono⟩
theorem rt_chain {op op' : CmpOp} {f g : D → D → Store → DK → Prop} (ho : OpL G X (compareOp op) f) (ho' : OpL G X (compareOp op') g) {m1 m2 m3 : WE} (ha : RE G X W a m1) (hb : RE G X W b m2) (hc : RE G X W c m3) (hm : lastMarks [op, op'] [b, c] = false := by with_unfolding_all rfl) :
    RT G X W (.Compare a [op, op'] [b, c] pos) (wTest (wChain f g m1 m2 m3)) :=
  ⟨PT.imp (pt_chain ho.run ho'.run ha.pe hb.pe hc.pe hm) fun σ H Q h => chain_in ho ho' ha.mono hb.mono hc.mono (tM.test (mon_chain ho.mono ho'.mono ha.mono hb.mono hc.mono) h), mon_test (mon_chain ho.mono ho'.mono ha.mono hb.mono hc.mono)⟩

/-! ### is, in -/
theorem ol_isN : OpL G X (compareOp .Is) (dIsN false) := by
  refine OpL.mk' (OpR.or op_isN op_is_bl) (fun x y H Q w S d1 d2 k r1 r2 h => ?_) (dIsN_mono _)
  unfold dIsN at h
  split at h
  · exact .inl ⟨rep_non.mp r2, by rw [isNon_ok r1]; exact h.here k (rep_bl.mpr rfl)⟩
  · split at h
    · exact .inr ⟨_, _, rep_bl.mp r1, rep_bl.mp r2, h.2.here k (rep_bl.mpr rfl)⟩
    · exact h.elim
  · exact h.elim
/-- one sign in a text -/
def dInS (neg : Bool) (d1 d2 : D) (S : Store) (Q : DK) : Prop := match d1, d2 with
  | .p (.str x), .p (.str z) => ∃ n : Nat, x = ⟨#[n]⟩ ∧ Q (.p (.bl (if neg then !decide (n ∈ z.cps.toList) else decide (n ∈ z.cps.toList)))) S
  | _, _ => False
theorem dInS_mono (neg : Bool) (d1 d2 : D) (S : Store) (Q Q' : DK) (hq : ∀ d S, Q d S → Q' d S) (h : dInS neg d1 d2 S Q) : dInS neg d1 d2 S Q' := by
  unfold dInS at h ⊢
  split at h
  · obtain ⟨n, e, h⟩ := h; exact ⟨n, e, hq _ _ h⟩
  · exact h.elim
theorem ol_inS : OpL G X (compareOp .In) (dInS false) := by
  refine OpL.mk' op_in_sign (fun x y H Q w S d1 d2 k r1 r2 h => ?_) (dInS_mono _)
  unfold dInS at h
  split at h
  · obtain ⟨n, e, h⟩ := h
    exact ⟨n, _, by rw [rep_str.mp r1, e], rep_str.mp r2, h.here k (rep_bl.mpr rfl)⟩
  · exact h.elim
theorem ol_notInS : OpL G X (compareOp .NotIn) (dInS true) := by
  refine OpL.mk' op_notIn_sign (fun x y H Q w S d1 d2 k r1 r2 h => ?_) (dInS_mono _)
  unfold dInS at h
  split at h
  · obtain ⟨n, e, h⟩ := h
    exact ⟨n, _, by rw [rep_str.mp r1, e], rep_str.mp r2, h.here k (rep_bl.mpr rfl)⟩
  · exact h.elim

/-! ### parts -/
theorem atI_rep {I : Hp} {vs : List V} {ds : List P} {i : Int} {d : P} (r : Reps G I vs ds) (h : atI ds i = some d) : ∃ v, atI vs i = some v ∧ Rep G I v d := by
  unfold atI at h ⊢
  rw [r.length]
  cases e : ixN ds.length i with
  | none => rw [e] at h; cases h
  | some j =>
    rw [e] at h
    exact r.get h
/-- an item -/
def dIx (d1 d2 : D) (S : Store) (Q : DK) : Prop := match d2 with
  | .p (.int i) => match d1 with
    | .p (.str z) => z.length ≤ sizeLine ∧ ∃ c, atI z.cps.toList i = some c ∧ Q (.p (.str ⟨#[c]⟩)) S
    | .p (.tup ds) => ∃ d, atI ds i = some d ∧ Q (.p d) S
    | d1 => match asL S d1 with
      | some ds => ∃ d, atI ds i = some d ∧ Q (.p d) S
      | none => False
  | _ => False
theorem il_ix (hK : X.K = G.K) : IxL G X dIx := by
  refine ⟨fun value slice pins s σ H x y v u Q I rx ry ⟨w, S, d1, d2, k, r1, r2, h⟩ hs => ?_, fun d1 d2 S Q Q' hq h => ?_⟩
  · refine ix_seq value slice pins s σ H x y v u Q I rx ry ?_ hs
    unfold dIx at h
    split at h
    · rw [rep_int] at r2
      split at h
      · obtain ⟨h1, c, h2, h3⟩ := h
        exact .inr (.inr ⟨_, _, c, rep_str.mp r1, r2, h1, h2, h3.here k (rep_str.mpr rfl)⟩)
      · obtain ⟨d, h1, h2⟩ := h
        obtain ⟨p, xs, rfl, q, rs⟩ := rep_tup.mp r1
        obtain ⟨z, h3, h4⟩ := atI_rep rs h1
        exact .inr (.inl ⟨p, xs, _, z, rfl, r2, by rw [hK]; exact Same.tup k.sub q, h3, h2.here k h4⟩)
      · split at h
        · rename_i ds e
          obtain ⟨d, h1, h2⟩ := h
          obtain ⟨p, xs, rfl, q, rs⟩ := asL_ok k r1 e
          obtain ⟨z, h3, h4⟩ := atI_rep rs h1
          exact .inl ⟨p, xs, _, z, rfl, r2, by rw [hK]; exact q, h3, h2.here k h4⟩
        · exact h.elim
    · exact h.elim
  · unfold dIx at h ⊢
    split at h
    · split at h
      · obtain ⟨h1, c, h2, h3⟩ := h; exact ⟨h1, c, h2, hq _ _ h3⟩
      · obtain ⟨d, h1, h2⟩ := h; exact ⟨d, h1, hq _ _ h2⟩
      · split at h
        · obtain ⟨d, h1, h2⟩ := h; exact ⟨d, h1, hq _ _ h2⟩
        · exact h.elim
    · exact h.elim
end
end RB
/-! The lifted layer: slices, dicts, built-ins by values. -/
namespace RB
open PySem PySem.Spec PyProof.Rows L2
section
variable {G : Glob} {X : Cx} {W : WX} {e a b c : Expr} {pos : Pos}

/-! ### slices -/
abbrev WO := Rho → Store → (Option Int → Store → Prop) → EK → Prop
def tMo (G : Glob) (W : WX) (m : WO) : TO := fun σ H Q => ∃ w S r, Wok G w S H ∧ EnvOk G w σ r ∧ m r S (fun o S' => ∀ w' H', Ext w H w' H' → Wok G w' S' H' → Q o H') (Qx G w H fun c d H' => W c d σ H')
def MonO (m : WO) : Prop := ∀ r S Q Q' E E', (∀ d S, Q d S → Q' d S) → (∀ x S, E x S → E' x S) → m r S Q E → m r S Q' E'
structure RO (G : Glob) (X : Cx) (W : WX) (e : Option Expr) (m : WO) : Prop where
  pe : PO X e (tMo G W m)
  mono : MonO m
def wNoP : WO := fun _ S Q _ => Q none S
def wPart (m : WE) : WO := fun r S Q E => m r S (fun d S1 => match d with
  | .p (.int i) => Q (some i) S1
  | _ => False) E
theorem PO.imp {X : Cx} {e : Option Expr} {t u : TO} (h : PO X e t) (i : ∀ σ H Q, u σ H Q → t σ H Q) : PO X e u := ⟨fun pins s σ H Q I q => h.run pins s σ H Q I (i σ H Q q)⟩
theorem ro_none : RO G X W none wNoP := ⟨PO.imp po_none fun σ H Q ⟨w, S, ρ, ok, en, q⟩ => q w H (Ext.refl w H) ok, fun _ _ _ _ _ _ hq _ h => hq _ _ h⟩
theorem ro_some {m : WE} (h : RE G X W e m) : RO G X W (some e) (wPart m) := by
  refine ⟨PO.imp (po_some h.pe) fun σ H Q ⟨w, S, ρ, ok, en, q⟩ => ?_, fun r S Q Q' E E' hq he h' => h.mono r S _ _ _ _ (fun d S1 q => ?_) he h'⟩
  · refine tM.bind h.mono ok en q (fun _ _ _ z => z) fun d S' v w' H' x k r q => ?_
    split at q
    · exact ⟨_, rep_int.mp r, q w' H' x k⟩
    · exact q.elim
  · split at q
    · exact hq _ _ q
    · exact q.elim
def dSl (d : D) (lo hi : Option Int) (S : Store) (Q : DK) : Prop := match d with
  | .p (.str z) => z.length ≤ sizeLine ∧ Q (.p (.str (cutS z lo hi))) S
  | .p (.tup ds) => Q (.p (.tup ((ds.drop (HT.sIx ds.length 0 lo)).take (HT.sIx ds.length ds.length hi - HT.sIx ds.length 0 lo)))) S
  | d => match asL S d with
    | some ds => Q (.p (.lst ((ds.drop (HT.sIx ds.length 0 lo)).take (HT.sIx ds.length ds.length hi - HT.sIx ds.length 0 lo)))) S
    | none => False
theorem dSl_mono (d : D) (lo hi : Option Int) (S : Store) (Q Q' : DK) (hq : ∀ d S, Q d S → Q' d S) (h : dSl d lo hi S Q) : dSl d lo hi S Q' := by
  unfold dSl at h ⊢
  split at h
  · exact ⟨h.1, hq _ _ h.2⟩
  · exact hq _ _ h
  · split at h
    · exact hq _ _ h
    · exact h.elim
theorem Reps.cut {I : Hp} {vs : List V} {ds : List P} {lo hi : Option Int} (r : Reps G I vs ds) : Reps G I (cutV vs lo hi) ((ds.drop (HT.sIx ds.length 0 lo)).take (HT.sIx ds.length ds.length hi - HT.sIx ds.length 0 lo)) := by
  unfold cutV
  rw [r.length]
  exact (r.drop _).take _
def wSl (m : WE) (ml mh : WO) : WE := fun r S Q E => m r S (fun d S1 => ml r S1 (fun lo S2 => mh r S2 (fun hi S3 => dSl d lo hi S3 Q) E) E) E
theorem re_slice (hK : X.K = G.K) {m : WE} {ml mh : WO} {lo hi : Option Expr} {p2 : Pos} (he : RE G X W e m) (hl : RO G X W lo ml) (hh : RO G X W hi mh) : RE G X W (.Subscript e (.Slice lo hi none p2) pos) (wSl m ml mh) := by
  refine ⟨PE.imp (pe_slice (SlR.or sl_str (SlR.or sl_tupA sl_list)) he.pe hl.pe hh.pe) fun σ H Q ⟨w, S, ρ, ok, en, q⟩ => ?_, fun r S Q Q' E E' hq he' h => he.mono r S _ _ _ _ (fun d S1 q => hl.mono r S1 _ _ _ _ (fun lo S2 q2 => hh.mono r S2 _ _ _ _ (fun hi S3 q3 => dSl_mono _ _ _ _ _ _ hq q3) he' q2) he' q) he' h⟩
  refine tM.bind he.mono ok en q (fun _ _ _ z => z) fun d S1 x w1 H1 x1 k1 r1 q1 => ?_
  refine ⟨w1, S1, ρ, k1, en.mono x1, hl.mono ρ S1 _ _ _ _ (fun lo S2 q2 w2 H2 x2 k2 => ?_) (fun y S' q => q.ext x1) q1⟩
  refine ⟨w2, S2, ρ, k2, en.mono (x1.trans x2), hh.mono ρ S2 _ _ _ _ (fun hi S3 q3 w3 H3 x3 k3 => ?_) (fun y S' q => q.ext (x1.trans x2)) q2⟩
  have r3 := (r1.mono x2).mono x3
  have xx := (x1.trans x2).trans x3
  unfold dSl at q3
  split at q3
  · exact .inl ⟨_, rep_str.mp r3, q3.1, q3.2 _ w3 H3 xx k3 (rep_str.mpr rfl)⟩
  · obtain ⟨p, xs, rfl, q, rs⟩ := rep_tup.mp r3
    refine .inr (.inl ⟨p, xs, rfl, by rw [hK]; exact Same.tup k3.sub q, fun hw => ?_, fun _ p hp => new_tup k3 (q3.ext xx) rs.cut hp⟩)
    refine q3 _ w3 H3 xx k3 (rep_tup.mpr ⟨p, xs, rfl, q, ?_⟩)
    have := rs.cut (lo := lo) (hi := hi)
    unfold cutV at this
    rw [hw.1, hw.2] at this
    simpa using this
  · split at q3
    · rename_i ds e
      obtain ⟨p, xs, rfl, q, rs⟩ := asL_ok k3 r3 e
      exact .inr (.inr ⟨p, xs, rfl, by rw [hK]; exact q, fun p hp => new_lst k3 (q3.ext xx) rs.cut hp⟩)
    · exact q3.elim

/-! ### built-ins by values -/
theorem CallR.or {X : Cx} {g : Value} {r r' : List V → Hp → VK → Prop} (h : CallR X g r) (h' : CallR X g r') : CallR X g (fun xs H Q => r xs H Q ∨ r' xs H Q) := by
  intro pins s σ H xs us Q I rx q
  rcases q with q | q
  · exact h pins s σ H xs us Q I rx q
  · exact h' pins s σ H xs us Q I rx q
theorem CallL.mk' {g : Value} {f : List D → Store → DK → Prop} {r : List V → Hp → VK → Prop} (h : CallR X g r)
    (i : ∀ xs H Q w S ds, Wok G w S H → RepDs G w xs ds → f ds S (Qv G w H Q) → r xs H Q) (m : ∀ ds S Q Q', (∀ d S, Q d S → Q' d S) → f ds S Q → f ds S Q') : CallL G X g f :=
  ⟨fun pins s σ H xs us Q I rx ⟨w, S, ds, k, r1, q⟩ => h pins s σ H xs us Q I rx (i xs H Q w S ds k r1 q), m⟩
theorem reps1 {w : Wd} {xs : List V} {d : D} (r : RepDs G w xs [d]) : ∃ x, xs = [x] ∧ RepD G w x d := by
  match xs, r with
  | [x], ⟨h, _⟩ => exact ⟨x, rfl, h⟩
theorem reps2 {w : Wd} {xs : List V} {d d' : D} (r : RepDs G w xs [d, d']) : ∃ x y, xs = [x, y] ∧ RepD G w x d ∧ RepD G w y d' := by
  match xs, r with
  | [x, y], ⟨h, h', _⟩ => exact ⟨x, y, rfl, h, h'⟩
/-- one argument -/
def b1 (f : D → Store → DK → Prop) (ds : List D) (S : Store) (Q : DK) : Prop := match ds with
  | [d] => f d S Q
  | _ => False
def b2 (f : D → D → Store → DK → Prop) (ds : List D) (S : Store) (Q : DK) : Prop := match ds with
  | [d, d'] => f d d' S Q
  | _ => False
theorem CallL.mk1 {g : Value} {f : D → Store → DK → Prop} {r : List V → Hp → VK → Prop} (h : CallR X g r)
    (i : ∀ x H Q w S d, Wok G w S H → RepD G w x d → f d S (Qv G w H Q) → r [x] H Q) (m : ∀ d S Q Q', (∀ d S, Q d S → Q' d S) → f d S Q → f d S Q') : CallL G X g (b1 f) := by
  refine CallL.mk' h (fun xs H Q w S ds k rs q => ?_) (fun ds S Q Q' hq q => ?_)
  · unfold b1 at q
    split at q
    · obtain ⟨x, rfl, rx⟩ := reps1 rs
      exact i x H Q w S _ k rx q
    · exact q.elim
  · unfold b1 at q ⊢
    split at q
    · exact m _ _ _ _ hq q
    · exact q.elim
theorem CallL.mk2 {g : Value} {f : D → D → Store → DK → Prop} {r : List V → Hp → VK → Prop} (h : CallR X g r)
    (i : ∀ x y H Q w S d d', Wok G w S H → RepD G w x d → RepD G w y d' → f d d' S (Qv G w H Q) → r [x, y] H Q) (m : ∀ d d' S Q Q', (∀ d S, Q d S → Q' d S) → f d d' S Q → f d d' S Q') : CallL G X g (b2 f) := by
  refine CallL.mk' h (fun xs H Q w S ds k rs q => ?_) (fun ds S Q Q' hq q => ?_)
  · unfold b2 at q
    split at q
    · obtain ⟨x, y, rfl, rx, ry⟩ := reps2 rs
      exact i x y H Q w S _ _ k rx ry q
    · exact q.elim
  · unfold b2 at q ⊢
    split at q
    · exact m _ _ _ _ _ hq q
    · exact q.elim
def dLen (d : D) (S : Store) (Q : DK) : Prop := match d with
  | .p (.str z) => z.length ≤ sizeLine ∧ Q (.p (.int z.length)) S
  | .p (.tup ds) => Q (.p (.int ds.length)) S
  | d => match asL S d with
    | some ds => Q (.p (.int ds.length)) S
    | none => False
theorem cl_len (hK : X.K = G.K) : CallL G X (.builtin "len") (b1 dLen) := by
  refine CallL.mk1 call_len (fun x H Q w S d k r q => ?_) (fun d S Q Q' hq q => ?_)
  · unfold dLen at q
    split at q
    · rw [rep_str] at r
      subst r
      exact ⟨_, _, rfl, ⟨q.1, rfl⟩, q.2.here k (rep_int.mpr rfl)⟩
    · obtain ⟨p, xs, rfl, z, rs⟩ := rep_tup.mp r
      exact ⟨_, xs.length, rfl, .inr ⟨xs, by rw [hK]; exact Same.tup k.sub z, rfl⟩, q.here k (rep_int.mpr (by rw [rs.length]))⟩
    · split at q
      · rename_i ds e
        obtain ⟨p, xs, rfl, z, rs⟩ := asL_ok k r e
        exact ⟨_, xs.length, rfl, .inl ⟨xs, by rw [hK]; exact z, rfl⟩, q.here k (rep_int.mpr (by rw [rs.length]))⟩
      · exact q.elim
  · unfold dLen at q ⊢
    split at q
    · exact ⟨q.1, hq _ _ q.2⟩
    · exact hq _ _ q
    · split at q
      · exact hq _ _ q
      · exact q.elim
/-- an int to data -/
def dI1 (g : Int → P) (d : D) (S : Store) (Q : DK) : Prop := match d with
  | .p (.int i) => Q (.p (g i)) S
  | _ => False
theorem dI1_mono {g : Int → P} (d : D) (S : Store) (Q Q' : DK) (hq : ∀ d S, Q d S → Q' d S) (q : dI1 g d S Q) : dI1 g d S Q' := by
  unfold dI1 at q ⊢
  split at q
  · exact hq _ _ q
  · exact q.elim
theorem cl_abs : CallL G X (.builtin "abs") (b1 (dI1 fun i => .int (if i < 0 then -i else i))) := by
  refine CallL.mk1 call_abs (fun x H Q w S d k r q => ?_) dI1_mono
  unfold dI1 at q
  split at q
  · rw [rep_int] at r
    subst r
    exact ⟨_, rfl, q.here k (rep_int.mpr rfl)⟩
  · exact q.elim
def dToInt (d : D) (S : Store) (Q : DK) : Prop := match d with
  | .p (.int i) => Q (.p (.int i)) S
  | .p (.bl b) => Q (.p (.int (if b then 1 else 0))) S
  | _ => False
theorem cl_int : CallL G X (.type "int") (b1 dToInt) := by
  refine CallL.mk1 call_int1 (fun x H Q w S d k r q => ?_) (fun d S Q Q' hq q => ?_)
  · unfold dToInt at q
    split at q
    · rw [rep_int] at r
      subst r
      exact .inl ⟨_, rfl, q.here k (rep_int.mpr rfl)⟩
    · rw [rep_bl] at r
      subst r
      exact .inr ⟨_, rfl, q.here k (rep_int.mpr rfl)⟩
    · exact q.elim
  · unfold dToInt at q ⊢
    split at q
    · exact hq _ _ q
    · exact hq _ _ q
    · exact q.elim
theorem cl_min2 (hc : X.calm = true) : CallL G X (.builtin "min") (b2 (dInt (fun _ _ => True) fun i j => .int (if j < i then j else i))) := by
  refine CallL.mk2 (call_min2 hc) (fun x y H Q w S d d' k r r' q => ?_) dInt_mono
  unfold dInt at q
  split at q
  · rw [rep_int] at r r'
    subst r; subst r'
    exact ⟨_, _, rfl, q.2.here k (rep_int.mpr rfl)⟩
  · exact q.elim
theorem cl_max2 (hc : X.calm = true) : CallL G X (.builtin "max") (b2 (dInt (fun _ _ => True) fun i j => .int (if j > i then j else i))) := by
  refine CallL.mk2 (call_max2 hc) (fun x y H Q w S d d' k r r' q => ?_) dInt_mono
  unfold dInt at q
  split at q
  · rw [rep_int] at r r'
    subst r; subst r'
    exact ⟨_, _, rfl, q.2.here k (rep_int.mpr rfl)⟩
  · exact q.elim
/-- a list or a tuple -/
def asQ (S : Store) : D → Option (List P)
  | .p (.tup ds) => some ds
  | d => asL S d
theorem asQ_ok {w : Wd} {S : Store} {H : Hp} {x : V} {d : D} {ds : List P} (k : Wok G w S H) (r : RepD G w x d) (h : asQ S d = some ds) : ∃ a vs, x = .ref a ∧ (SqL G.K H a vs ∨ SqT G.K H a vs) ∧ Reps G w.I vs ds := by
  unfold asQ at h
  split at h
  · cases h
    obtain ⟨p, xs, rfl, z, rs⟩ := rep_tup.mp r
    exact ⟨p, xs, rfl, .inr (Same.tup k.sub z), rs⟩
  · obtain ⟨p, xs, rfl, z, rs⟩ := asL_ok k r h
    exact ⟨p, xs, rfl, .inl z, rs⟩
def dQ1 (f : List P → Store → DK → Prop) (d : D) (S : Store) (Q : DK) : Prop := match asQ S d with
  | some ds => f ds S Q
  | none => False
theorem dQ1_mono {f : List P → Store → DK → Prop} (hf : ∀ ds S Q Q', (∀ d S, Q d S → Q' d S) → f ds S Q → f ds S Q') (d : D) (S : Store) (Q Q' : DK) (hq : ∀ d S, Q d S → Q' d S) (q : dQ1 f d S Q) : dQ1 f d S Q' := by
  unfold dQ1 at q ⊢
  split at q
  · exact hf _ _ _ _ hq q
  · exact q.elim
theorem cl_list (hK : X.K = G.K) : CallL G X (.type "list") (b1 (dQ1 fun ds S Q => Q (.p (.lst ds)) S)) := by
  refine CallL.mk1 call_list_of (fun x H Q w S d k r q => ?_) (dQ1_mono fun _ _ _ _ hq q => hq _ _ q)
  unfold dQ1 at q
  split at q
  · rename_i ds e
    obtain ⟨p, xs, rfl, z, rs⟩ := asQ_ok k r e
    exact ⟨p, xs, rfl, by rw [hK]; exact z, fun p hp => new_lst k q rs hp⟩
  · exact q.elim
/-- list(..) that will change -/
theorem cl_listC (hK : X.K = G.K) : CallL G X (.type "list") (b1 (dQ1 fun ds S Q => Q (.cell S.length) (S ++ [.lst ds]))) := by
  refine CallL.mk1 call_list_of (fun x H Q w S d k r q => ?_) (dQ1_mono fun _ _ _ _ hq q => hq _ _ q)
  unfold dQ1 at q
  split at q
  · rename_i ds e
    obtain ⟨p, xs, rfl, z, rs⟩ := asQ_ok k r e
    refine ⟨p, xs, rfl, by rw [hK]; exact z, fun p hp => ?_⟩
    obtain ⟨k2, x2⟩ := k.allocC (o := .lst xs) (c := .lst ds) hp ⟨k.freeI hp, xs, upd_same, rs⟩
    refine q (.ref p) _ _ x2 k2 ⟨p, rfl, ?_⟩
    show (w.as ++ [p])[S.length]? = some p
    rw [← k.len]
    simp
  · exact q.elim
theorem cl_tuple (hK : X.K = G.K) : CallL G X (.type "tuple") (b1 (dQ1 fun ds S Q => Q (.p (.tup ds)) S)) := by
  refine CallL.mk1 call_tuple_of (fun x H Q w S d k r q => ?_) (dQ1_mono fun _ _ _ _ hq q => hq _ _ q)
  unfold dQ1 asQ at q
  split at q
  · rename_i ds e
    split at e
    · cases e
      obtain ⟨p, xs, rfl, z, rs⟩ := rep_tup.mp r
      exact ⟨p, xs, rfl, .inr ⟨by rw [hK]; exact Same.tup k.sub z, q.here k (rep_tup.mpr ⟨p, xs, rfl, z, rs⟩)⟩⟩
    · obtain ⟨p, xs, rfl, z, rs⟩ := asL_ok k r e
      exact ⟨p, xs, rfl, .inl ⟨by rw [hK]; exact z, fun p hp => new_tup k q rs hp⟩⟩
  · exact q.elim
/-- the truths of a list -/
def bls : List P → Option (List Bool)
  | [] => some []
  | .bl b :: r => (bls r).map (b :: ·)
  | _ :: _ => none
theorem bls_ok {I : Hp} : ∀ {ds : List P} {vs : List V} {bs : List Bool}, Reps G I vs ds → bls ds = some bs → vs = bs.map V.bl
  | [], _, _, h, q => by simp only [Reps, bls] at h q; cases q; exact h
  | .bl b :: ds, _, _, h, q => by
    simp only [Reps, Rep, bls, Option.map_eq_some_iff] at h q
    obtain ⟨v, r, e, rfl, h2⟩ := h
    obtain ⟨bs, e1, rfl⟩ := q
    rw [e, bls_ok h2 e1]
    rfl
  | .non :: _, _, _, _, q | .int _ :: _, _, _, _, q | .str _ :: _, _, _, _, q | .ty _ :: _, _, _, _, q | .tup _ :: _, _, _, _, q | .lst _ :: _, _, _, _, q | .scr _ :: _, _, _, _, q | .dK _ _ :: _, _, _, _, q | .dT _ _ :: _, _, _, _, q | .obj _ _ _ :: _, _, _, _, q => by simp [bls] at q
def dBls (g : List Bool → Bool) (d : D) (S : Store) (Q : DK) : Prop := match asL S d with
  | some ds => match bls ds with
    | some bs => Q (.p (.bl (g bs))) S
    | none => False
  | none => False
theorem dBls_mono {g : List Bool → Bool} (d : D) (S : Store) (Q Q' : DK) (hq : ∀ d S, Q d S → Q' d S) (q : dBls g d S Q) : dBls g d S Q' := by
  unfold dBls at q ⊢
  split at q
  · split at q
    · exact hq _ _ q
    · exact q.elim
  · exact q.elim
theorem cl_all (hK : X.K = G.K) (hc : X.calm = true) : CallL G X (.builtin "all") (b1 (dBls fun bs => bs.all id)) := by
  refine CallL.mk1 (cr_all hc) (fun x H Q w S d k r q => ?_) dBls_mono
  unfold dBls at q
  split at q
  · rename_i ds e
    split at q
    · rename_i bs e2
      obtain ⟨p, xs, rfl, z, rs⟩ := asL_ok k r e
      rw [bls_ok rs e2] at z
      exact ⟨p, bs, rfl, by rw [hK]; exact z, q.here k (rep_bl.mpr rfl)⟩
    · exact q.elim
  · exact q.elim
theorem cl_any (hK : X.K = G.K) (hc : X.calm = true) : CallL G X (.builtin "any") (b1 (dBls fun bs => bs.any id)) := by
  refine CallL.mk1 (cr_any hc) (fun x H Q w S d k r q => ?_) dBls_mono
  unfold dBls at q
  split at q
  · rename_i ds e
    split at q
    · rename_i bs e2
      obtain ⟨p, xs, rfl, z, rs⟩ := asL_ok k r e
      rw [bls_ok rs e2] at z
      exact ⟨p, bs, rfl, by rw [hK]; exact z, q.here k (rep_bl.mpr rfl)⟩
    · exact q.elim
  · exact q.elim
def intsP : List P → Option (List Int)
  | [] => some []
  | .int b :: r => (intsP r).map (b :: ·)
  | _ :: _ => none
theorem intsP_ok {I : Hp} : ∀ {ds : List P} {vs : List V} {bs : List Int}, Reps G I vs ds → intsP ds = some bs → vs = bs.map V.int
  | [], _, _, h, q => by simp only [Reps, intsP] at h q; cases q; exact h
  | .int b :: ds, _, _, h, q => by
    simp only [Reps, Rep, intsP, Option.map_eq_some_iff] at h q
    obtain ⟨v, r, e, rfl, h2⟩ := h
    obtain ⟨bs, e1, rfl⟩ := q
    rw [e, intsP_ok h2 e1]
    rfl
  | .non :: _, _, _, _, q | .bl _ :: _, _, _, _, q | .str _ :: _, _, _, _, q | .ty _ :: _, _, _, _, q | .tup _ :: _, _, _, _, q | .lst _ :: _, _, _, _, q | .scr _ :: _, _, _, _, q | .dK _ _ :: _, _, _, _, q | .dT _ _ :: _, _, _, _, q | .obj _ _ _ :: _, _, _, _, q => by simp [intsP] at q
def dSum (d : D) (S : Store) (Q : DK) : Prop := match asL S d with
  | some ds => match intsP ds with
    | some bs => Q (.p (.int bs.sum)) S
    | none => False
  | none => False
theorem cl_sum (hK : X.K = G.K) (hc : X.calm = true) : CallL G X (.builtin "sum") (b1 dSum) := by
  refine CallL.mk1 (cr_sum hc) (fun x H Q w S d k r q => ?_) (fun d S Q Q' hq q => ?_)
  · unfold dSum at q
    split at q
    · rename_i ds e
      split at q
      · rename_i bs e2
        obtain ⟨p, xs, rfl, z, rs⟩ := asL_ok k r e
        rw [intsP_ok rs e2] at z
        exact ⟨p, bs, rfl, by rw [hK]; exact z, q.here k (rep_int.mpr rfl)⟩
      · exact q.elim
    · exact q.elim
  · unfold dSum at q ⊢
    split at q
    · split at q
      · exact hq _ _ q
      · exact q.elim
    · exact q.elim
/-- texts of a list -/
def strsP : List P → Option (List Str)
  | [] => some []
  | .str b :: r => (strsP r).map (b :: ·)
  | _ :: _ => none
theorem strsP_ok {I : Hp} : ∀ {ds : List P} {vs : List V} {bs : List Str}, Reps G I vs ds → strsP ds = some bs → vs = bs.map V.str
  | [], _, _, h, q => by simp only [Reps, strsP] at h q; cases q; exact h
  | .str b :: ds, _, _, h, q => by
    simp only [Reps, Rep, strsP, Option.map_eq_some_iff] at h q
    obtain ⟨v, r, e, rfl, h2⟩ := h
    obtain ⟨bs, e1, rfl⟩ := q
    rw [e, strsP_ok h2 e1]
    rfl
  | .non :: _, _, _, _, q | .bl _ :: _, _, _, _, q | .int _ :: _, _, _, _, q | .ty _ :: _, _, _, _, q | .tup _ :: _, _, _, _, q | .lst _ :: _, _, _, _, q | .scr _ :: _, _, _, _, q | .dK _ _ :: _, _, _, _, q | .dT _ _ :: _, _, _, _, q | .obj _ _ _ :: _, _, _, _, q => by simp [strsP] at q
def dJoin (d1 d2 : D) (S : Store) (Q : DK) : Prop := match d1, asQ S d2 with
  | .p (.str a), some ds => match strsP ds with
    | some ys => (ys.map (·.length)).sum + ys.length * a.length ≤ 16777216 ∧ Q (.p (.str (Txt.join a ys))) S
    | none => False
  | _, _ => False
theorem dJoin_mono (d1 d2 : D) (S : Store) (Q Q' : DK) (hq : ∀ d S, Q d S → Q' d S) (q : dJoin d1 d2 S Q) : dJoin d1 d2 S Q' := by
  unfold dJoin at q ⊢
  split at q
  · split at q
    · exact ⟨q.1, hq _ _ q.2⟩
    · exact q.elim
  · exact q.elim
/-- a first, known to be a text, then b -/
def wJoin (m1 m2 : WE) : WE := fun r S Q E => m1 r S (fun d1 S1 => match d1 with
  | .p (.str a) => m2 r S1 (fun d2 S2 => dJoin (.p (.str a)) d2 S2 Q) E
  | _ => False) E
theorem re_join (hK : X.K = G.K) {m1 m2 : WE} {apos pos : Pos} {o : Expr} (ho : RE G X W o m1) (he : RE G X W e m2) (hs : starEach [e] X.env = [(false, eval e X.env)] := by rfl) (hbase : attributeBase o "join" X.env (eval o X.env) = eval o X.env := by rfl) (hline : (apos.endLine == pos.line) = true := by rfl) :
    RE G X W (.Call (.Attribute o "join" apos) [e] [] pos) (wJoin m1 m2) := by
  refine ⟨PE.imp (pe_join ho.pe he.pe hs hbase hline) fun σ H Q ⟨w, S, ρ, ok, en, q⟩ => ?_, fun r S Q Q' E E' hq he' h => ho.mono r S _ _ _ _ (fun d S1 q => ?_) he' h⟩
  · refine tM.bind ho.mono ok en q (fun _ _ _ z => z) fun d1 S1 x w1 H1 x1 k1 r1 q1 => ?_
    split at q1
    · rename_i a
      refine ⟨⟨a, rep_str.mp r1⟩, w1, S1, ρ, k1, en.mono x1, he.mono ρ S1 _ _ _ _ (fun d2 S2 q2 y w2 H2 x2 k2 r2 => ?_) (fun y S' q => q.ext x1) q1⟩
      unfold dJoin at q2
      split at q2
      · rename_i a' ds e1 e2
        cases e1
        split at q2
        · rename_i ys e3
          obtain ⟨p, xs, rfl, z, rs⟩ := asQ_ok k2 r2 e2
          rw [strsP_ok rs e3] at z
          exact ⟨a, p, ys, rep_str.mp r1, rfl, by rw [hK]; exact z, q2.1, q2.2 _ w2 H2 (x1.trans x2) k2 (rep_str.mpr rfl)⟩
        · exact q2.elim
      · exact q2.elim
    · exact q1.elim
  · split at q
    · exact he.mono r S1 _ _ _ _ (fun d2 S2 q2 => dJoin_mono _ _ _ _ _ hq q2) he' q
    · exact q.elim
end
end RB
/-! The lifted layer: isinstance, repr of scalars, dicts. -/
namespace RB
open PySem PySem.Spec PyProof.Rows L2
section
variable {G : Glob} {X : Cx} {W : WX} {e a b c : Expr} {pos : Pos}

/-! ### isinstance with built-in classes -/
/-- the name of a value's built-in class -/
def tyS (S : Store) : D → Option String
  | .p .non => some "NoneType"
  | .p (.bl _) => some "bool"
  | .p (.int _) => some "int"
  | .p (.str _) => some "str"
  | .p (.tup _) => some "tuple"
  | .p (.lst _) => some "list"
  | .p (.dK _ _) => some "dict"
  | .p (.dT _ _) => some "dict"
  | .cell n => match S[n]? with
    | some (.lst _) => some "list"
    | some (.dK _ _) => some "dict"
    | _ => none
  | _ => none
theorem tyS_ok {K : PySem.W.Frag} (hK : G.K = K) {w : Wd} {S : Store} {H : Hp} {x : V} {d : D} {t : String} (k : Wok G w S H) (r : RepD G w x d) (h : tyS S d = some t) : TyX K H x (.type t) := by
  cases d with
  | p q =>
    cases q <;> simp only [tyS] at h <;> first | (cases h; done) | skip
    · cases h; rw [rep_non] at r; subst r; exact .base .non
    · cases h; rw [rep_bl] at r; subst r; exact .base (.bl _)
    · cases h; rw [rep_int] at r; subst r; exact .base (.int _)
    · cases h; rw [rep_str] at r; subst r; exact .base (.str _)
    · cases h
      obtain ⟨p, xs, rfl, z, rs⟩ := rep_tup.mp r
      rw [hK] at z
      rcases z with (z | ⟨o, z⟩) | ⟨o, its, n, z, c, _⟩
      · exact .base (.tup (k.sub _ _ z))
      · exact .fTuple (k.sub _ _ z)
      · exact .kTuple z c
    · cases h; obtain ⟨p, xs, rfl, z, rs⟩ := rep_lst.mp r; exact .base (.lst (k.sub _ _ z))
    · cases h; simp only [RepD, Rep] at r; obtain ⟨p, xs, rfl, z, _⟩ := r; exact .base (.dK (k.sub _ _ z))
    · cases h; simp only [RepD, Rep] at r; obtain ⟨p, xs, rfl, z, _⟩ := r; exact .base (.dT (k.sub _ _ z))
  | fn => simp [tyS] at h
  | cell n =>
    obtain ⟨a, rfl, q⟩ := rep_cell.mp r
    simp only [tyS] at h
    split at h
    · rename_i ds hs
      cases h
      obtain ⟨_, vs, hv, rs⟩ := k.cells n _ a hs q
      exact .base (.lst hv)
    · rename_i ks ds hs
      cases h
      obtain ⟨_, vs, hv, _⟩ := k.cells n _ a hs q
      exact .base (.dK hv)
    · cases h
def isB (a b : String) : Bool := a == b || (a == "bool" && b == "int")
theorem isB_ok : ∀ a ∈ ["NoneType", "bool", "int", "str", "tuple", "list", "dict"], ∀ b ∈ ["bool", "int", "str", "tuple", "list", "dict"], kitB a b = some (isB a b) := by decide +kernel
theorem tyS_mem {S : Store} {d : D} {t : String} (h : tyS S d = some t) : t ∈ ["NoneType", "bool", "int", "str", "tuple", "list", "dict"] := by
  cases d with
  | p q => cases q <;> simp only [tyS] at h <;> first | (cases h; done) | (cases h; simp)
  | fn => simp [tyS] at h
  | cell n =>
    simp only [tyS] at h
    split at h <;> first | (cases h; done) | (cases h; simp)
/-- isinstance(d, T), T one built-in class -/
def dIsi (d d' : D) (S : Store) (Q : DK) : Prop := match d' with
  | .p (.ty T) => T ∈ ["bool", "int", "str", "tuple", "list", "dict"] ∧ match tyS S d with
    | some t => Q (.p (.bl (isB t T))) S
    | none => False
  | _ => False
theorem cl_isi (hK : X.K = G.K) : CallL G X (.builtin "isinstance") (b2 dIsi) := by
  refine CallL.mk2 call_isi (fun x y H Q w S d d' k r r' q => ?_) (fun d d' S Q Q' hq q => ?_)
  · unfold dIsi at q
    split at q
    · rename_i T
      obtain ⟨hT, q⟩ := q
      split at q
      · rename_i t e
        rw [rep_ty] at r'
        subst r'
        exact ⟨x, _, _, _, _, rfl, .ty T, tyS_ok hK.symm k r e, kit_ty (isB_ok t (tyS_mem e) T hT), q.here k (rep_bl.mpr rfl)⟩
      · exact q.elim
    · exact q.elim
  · unfold dIsi at q ⊢
    split at q
    · refine ⟨q.1, ?_⟩
      have q := q.2
      split at q
      · exact hq _ _ q
      · exact q.elim
    · exact q.elim
/-- isinstance(e, (T, T')) -/
def wIsi2 (T T' : String) (m : WE) : WE := fun r S Q E => m r S (fun d S1 => match tyS S1 d with
  | some t => Q (.p (.bl (isB t T || isB t T'))) S1
  | none => False) E
theorem re_isi2 {p pos p1 p2 p3 : Pos} {k3 : Nat} {T T' : String} {x x' : Str} {m : WE} (hK : X.K = G.K) (he : RE G X W e m) (hg : Gl X "isinstance") (hm : X.mg "isinstance" = none) (hg1 : Gl X x) (hm1 : X.mg x = none) (hv1 : bootBuiltins x = some (.type T)) (hg2 : Gl X x') (hm2 : X.mg x' = none) (hv2 : bootBuiltins x' = some (.type T'))
    (hT : T ∈ ["bool", "int", "str", "tuple", "list", "dict"] := by decide) (hT' : T' ∈ ["bool", "int", "str", "tuple", "list", "dict"] := by decide) (hn1 : x ≠ "__name__" := by decide) (hd1 : (x == ("__debug__" : Str)) = false := by decide) (hn2 : x' ≠ "__name__" := by decide) (hd2 : (x' == ("__debug__" : Str)) = false := by decide)
    (hs : starEach [e, .Tuple [.Name x p1, .Name x' p2] k3 p3] X.env = (false, eval e X.env) :: starEach [.Tuple [.Name x p1, .Name x' p2] k3 p3] X.env := by rfl) :
    RE G X W (.Call (.Name "isinstance" p) [e, .Tuple [.Name x p1, .Name x' p2] k3 p3] [] pos) (wIsi2 T T' m) := by
  have ht := pe_tup (pos := p3) (x1 := k3) (pa_cons (pe_bltn (X := X) (pos := p1) (v := .ty T) hg1 hm1 hv1 rfl hn1 hd1) (pa_cons (pe_bltn (X := X) (pos := p2) (v := .ty T') hg2 hm2 hv2 rfl hn2 hd2) pa_nil))
  refine ⟨PE.imp (pe_callB call_isiT hg hm (by decide +kernel) (pa_cons he.pe (pa_cons ht pa_nil) hs) (he := hs)) fun σ H Q ⟨w, S, ρ, ok, en, q⟩ => ?_, fun r S Q Q' E E' hq he' h => he.mono r S _ _ _ _ (fun d S1 q => ?_) he' h⟩
  · refine tM.bind he.mono ok en q (fun _ _ _ z => z) fun d S1 y w1 H1 x1 k1 r1 q1 => ?_
    split at q1
    · rename_i t et
      refine ⟨by show 2 ≤ sizeLine; decide, fun tp hp => ?_⟩
      obtain ⟨k2, x2⟩ := k1.allocX (o := .tup [.ty T, .ty T']) hp
      have ty := tyS_ok (K := X.K) hK.symm k2 (r1.mono x2) et
      refine ⟨y, tp, _, _, [.type T, .type T'], _, rfl, upd_same, .cons (.ty T) (.cons (.ty T') .nil), ty, ?_, q1 _ w1 _ (x1.trans x2) k2 (rep_bl.mpr rfl)⟩
      refine kitAny_cons (kit_ty (isB_ok t (tyS_mem et) T hT)) (fun h1 => ?_) (fun h1 => by rw [h1]; rfl)
      refine kitAny_cons (kit_ty (isB_ok t (tyS_mem et) T' hT')) (fun h2 => ?_) (fun h2 => by rw [h2]; simp)
      rw [h1, h2]
      rfl
    · exact q1.elim
  · split at q
    · exact hq _ _ q
    · exact q.elim

/-! ### repr of a truth -/
theorem call_repr_bl : CallR X (.builtin "repr") (fun xs H Q => ∃ b, xs = [.bl b] ∧ Q (.str (if b then "True" else "False")) H) := by
  intro pins s σ H xs us Q I rx h
  obtain ⟨b, rfl, q⟩ := h
  obtain ⟨u, rfl, ru⟩ := vals1 rx
  cases ru
  exact PySem.P.repr_of_bool ⟨.str _, H, I.tok _, ⟨_, rfl⟩, q⟩
def dReprB (d : D) (S : Store) (Q : DK) : Prop := match d with
  | .p (.bl b) => Q (.p (.str (if b then "True" else "False"))) S
  | _ => False
theorem cl_reprB : CallL G X (.builtin "repr") (b1 dReprB) := by
  refine CallL.mk1 call_repr_bl (fun x H Q w S d k r q => ?_) (fun d S Q Q' hq q => ?_)
  · unfold dReprB at q
    split at q
    · rw [rep_bl] at r
      subst r
      exact ⟨_, rfl, q.here k (rep_str.mpr rfl)⟩
    · exact q.elim
  · unfold dReprB at q ⊢
    split at q
    · exact hq _ _ q
    · exact q.elim

/-! ### dicts by int and text keys -/
def klook : List Key → List P → Key → Option P
  | k' :: ks, v :: vs, k => if k' = k then some v else klook ks vs k
  | _, _, _ => none
def kset : List Key → List P → Key → P → List P
  | k' :: ks, v :: vs, k, x => (if k' = k then x else v) :: kset ks vs k x
  | _, vs, _, _ => vs
def keyOf : D → Option Key
  | .p (.int i) => some (.inl i)
  | .p (.str x) => some (.inr x)
  | _ => none
theorem keyOf_ok {w : Wd} {x : V} {d : D} {k : Key} (r : RepD G w x d) (h : keyOf d = some k) : x = kV k := by
  cases d with
  | cell n => simp [keyOf] at h
  | fn => simp [keyOf] at h
  | p q =>
    cases q <;> simp only [keyOf] at h <;> first | (cases h; done) | skip
    · cases h; exact rep_int.mp r
    · cases h; exact rep_str.mp r
theorem klook_ok {I : Hp} : ∀ {kvs : List (Key × V)} {ks : List Key} {vs : List P} {k : Key} {p : P}, kvs.map (·.1) = ks → Reps G I (kvs.map (·.2)) vs → klook ks vs k = some p → ∃ v, valV kvs k = some v ∧ Rep G I v p
  | [], _, _, _, _, h1, h2, h => by simp at h1; subst h1; simp [klook] at h
  | (k', v) :: r, _, _, k, p, h1, h2, h => by
    subst h1
    cases h2' : (‹List P› : List P) with
    | nil => subst h2'; simp [klook] at h
    | cons q qs =>
      subst h2'
      simp only [List.map_cons, Reps] at h2
      obtain ⟨v', r', e, h3, h4⟩ := h2
      simp only [List.cons.injEq] at e
      obtain ⟨rfl, rfl⟩ := e
      simp only [List.map_cons, klook] at h
      by_cases hk : k' = k
      · rw [if_pos hk] at h
        cases h
        exact ⟨v, valV_pos hk, h3⟩
      · rw [if_neg hk] at h
        obtain ⟨z, e1, e2⟩ := klook_ok rfl h4 h
        exact ⟨z, by rw [valV_neg hk]; exact e1, e2⟩
theorem kmap_ok {I : Hp} {k : Key} {x : V} {p : P} (hx : Rep G I x p) : ∀ {kvs : List (Key × V)} {vs : List P}, Reps G I (kvs.map (·.2)) vs →
    ((kvs.map fun kv => if kv.1 = k then (kv.1, x) else kv).map (·.1)) = kvs.map (·.1) ∧ Reps G I ((kvs.map fun kv => if kv.1 = k then (kv.1, x) else kv).map (·.2)) (kset (kvs.map (·.1)) vs k p)
  | [], vs, h => by
    simp only [List.map_nil] at h ⊢
    refine ⟨trivial, ?_⟩
    have := h.length
    have e : vs = [] := List.eq_nil_of_length_eq_zero (by simpa using this.symm)
    subst e
    simpa [kset] using Reps.nil
  | (k', v) :: r, vs, h => by
    cases vs with
    | nil => simp only [List.map_cons, Reps] at h; cases h
    | cons q qs =>
      simp only [List.map_cons, Reps] at h
      obtain ⟨v', r', e, h3, h4⟩ := h
      simp only [List.cons.injEq] at e
      obtain ⟨rfl, rfl⟩ := e
      obtain ⟨i1, i2⟩ := kmap_ok hx h4
      simp only [List.map_cons, kset]
      by_cases hk : k' = k
      · rw [if_pos hk, if_pos hk]
        exact ⟨by rw [i1], Reps.cons hx i2⟩
      · rw [if_neg hk, if_neg hk]
        exact ⟨by rw [i1], Reps.cons h3 i2⟩
def dDGet (d d' : D) (S : Store) (Q : DK) : Prop := match keyOf d' with
  | some k => match d with
    | .p (.dK ks vs) => match klook ks vs k with
      | some p => Q (.p p) S
      | none => False
    | .cell n => match S[n]? with
      | some (.dK ks vs) => match klook ks vs k with
        | some p => Q (.p p) S
        | none => False
      | _ => False
    | _ => False
  | none => False
theorem dDGet_mono (d d' : D) (S : Store) (Q Q' : DK) (hq : ∀ d S, Q d S → Q' d S) (q : dDGet d d' S Q) : dDGet d d' S Q' := by
  unfold dDGet at q ⊢
  split at q
  · split at q
    · split at q
      · exact hq _ _ q
      · exact q.elim
    · split at q
      · split at q
        · exact hq _ _ q
        · exact q.elim
      · exact q.elim
    · exact q.elim
  · exact q.elim
theorem re_dget {m1 m2 : WE} (hu : X.A.units + 1 < cLine) (ha : RE G X W a m1) (hb : RE G X W b m2) (hs : NoSl b := by intro _ _; rfl) : RE G X W (.Subscript a b pos) (wBin dDGet m1 m2) := by
  refine ⟨PE.imp (pe_dget hu ha.pe hb.pe hs) fun σ H Q ⟨w, S, ρ, ok, en, q⟩ => ?_, mon_bin dDGet_mono ha.mono hb.mono⟩
  refine tM2 ha.mono hb.mono ok en q fun d1 d2 S' x y w' H' x1 k r1 r2 q => ?_
  unfold dDGet at q
  split at q
  · rename_i ky e
    have ey := keyOf_ok r2 e
    subst ey
    split at q
    · split at q
      · rename_i ks vs p e2
        simp only [RepD, Rep] at r1
        obtain ⟨a, kvs, rfl, z, h1, h2⟩ := r1
        obtain ⟨v, h3, h4⟩ := klook_ok h1 h2 e2
        exact ⟨a, v, rfl, by rw [← h3]; exact DGet.k (k.sub _ _ z), q v w' H' x1 k h4⟩
      · exact q.elim
    · split at q
      · rename_i hs
        split at q
        · rename_i p e2
          obtain ⟨a, rfl, hn⟩ := rep_cell.mp r1
          obtain ⟨_, kvs, z, h1, h2⟩ := k.cells _ _ a hs hn
          obtain ⟨v, h3, h4⟩ := klook_ok h1 h2 e2
          exact ⟨a, v, rfl, by rw [← h3]; exact DGet.k z, q v w' H' x1 k h4⟩
        · exact q.elim
      · exact q.elim
    · exact q.elim
  · exact q.elim
/-- {} -/
def wDNew : WE := fun _ S Q _ => Q (.p (.dK [] [])) S
theorem re_dnew : RE G X W (.Dict [] [] pos) wDNew := by
  refine ⟨PE.imp pe_dnewK fun σ H Q ⟨w, S, ρ, ok, en, q⟩ => fun p hp => ?_, fun _ _ _ _ _ _ hq _ h => hq _ _ h⟩
  obtain ⟨k2, x2⟩ := ok.alloc (o := .dK []) hp
  refine q (.ref p) _ _ x2 k2 ?_
  simp only [RepD, Rep]
  exact ⟨p, [], rfl, upd_same, rfl, by simpa using Reps.nil⟩
end
end RB
/-! The lifted layer: dict displays, targets, what is walked, comprehensions. -/
namespace RB
open PySem PySem.Spec PyProof.Rows L2
section
variable {G : Glob} {X : Cx} {W : WX} {e a b c : Expr} {pos : Pos}

/-! ### {k: v, ..} -/
def wPairs : List (WE × WE) → Rho → Store → (List (D × D) → Store → Prop) → EK → Prop
  | [], _, S, Q, _ => Q [] S
  | (k, v) :: ms, r, S, Q, E => k r S (fun dk S1 => v r S1 (fun dv S2 => wPairs ms r S2 (fun ps S3 => Q ((dk, dv) :: ps) S3) E) E) E
structure RPs (G : Glob) (X : Cx) (W : WX) (pos : Pos) (keys : List (Option Expr)) (values : List Expr) (ms : List (WE × WE)) : Prop where
  pp : PPs X pos keys values (ms.map fun p => (tM G W p.1, tM G W p.2))
  mono : ∀ p ∈ ms, Mon p.1 ∧ Mon p.2
theorem rp_nil : RPs G X W pos [] [] [] := ⟨pps_nil, fun _ h => nomatch h⟩
theorem rp_cons {k v : Expr} {ks : List (Option Expr)} {vs : List Expr} {mk mv : WE} {ms : List (WE × WE)} (hk : RE G X W k mk) (hv : RE G X W v mv) (hr : RPs G X W pos ks vs ms) : RPs G X W pos (some k :: ks) (v :: vs) ((mk, mv) :: ms) :=
  ⟨pps_cons hk.pe hv.pe hr.pp, fun p hp => by
    rcases List.mem_cons.mp hp with rfl | hp
    · exact ⟨hk.mono, hv.mono⟩
    · exact hr.mono p hp⟩
theorem wPairs_mono : ∀ {ms : List (WE × WE)}, (∀ p ∈ ms, Mon p.1 ∧ Mon p.2) → ∀ r S Q Q' E E', (∀ d S, Q d S → Q' d S) → (∀ x S, E x S → E' x S) → wPairs ms r S Q E → wPairs ms r S Q' E'
  | [], _, _, _, _, _, _, _, hq, _, h => hq _ _ h
  | (k, v) :: ms, hm, r, S, Q, Q', E, E', hq, he, h => by
    obtain ⟨h1, h2⟩ := hm (k, v) List.mem_cons_self
    exact h1 r S _ _ _ _ (fun dk S1 q1 => h2 r S1 _ _ _ _ (fun dv S2 q2 => wPairs_mono (fun p hp => hm p (List.mem_cons_of_mem _ hp)) r S2 _ _ _ _ (fun ps S3 q3 => hq _ _ q3) he q2) he q1) he h
def RepPs (G : Glob) (w : Wd) : List (V × V) → List (D × D) → Prop
  | [], [] => True
  | (x, y) :: r, (d, d') :: t => RepD G w x d ∧ RepD G w y d' ∧ RepPs G w r t
  | _, _ => False
theorem tPairs_in : ∀ {ms : List (WE × WE)}, (∀ p ∈ ms, Mon p.1 ∧ Mon p.2) → ∀ {σ : L2.St} {H : Hp} {w : Wd} {S : Store} {r : Rho} {k : List (D × D) → Store → Prop} {Q : List (V × V) → Hp → Prop}, Wok G w S H → EnvOk G w σ r →
    wPairs ms r S k (Qx G w H fun c d H' => W c d σ H') → (∀ ps S' vs w' H', Ext w H w' H' → Wok G w' S' H' → RepPs G w' vs ps → k ps S' → Q vs H') → tPairs (ms.map fun p => (tM G W p.1, tM G W p.2)) σ H Q
  | [], _, σ, H, w, S, r, k, Q, ok, en, h, hk => hk [] S [] w H (Ext.refl w H) ok trivial h
  | (mk, mv) :: ms, hm, σ, H, w, S, r, k, Q, ok, en, h, hk => by
    obtain ⟨h1, h2⟩ := hm (mk, mv) List.mem_cons_self
    refine tM2 (k := fun dk dv S2 => wPairs ms r S2 (fun ps S3 => k ((dk, dv) :: ps) S3) (Qx G w H fun c d H' => W c d σ H')) h1 h2 ok en h fun d1 d2 S' x y w' H' x1 k1 r1 r2 q => ?_
    have hm' : ∀ p ∈ ms, Mon p.1 ∧ Mon p.2 := fun p hp => hm p (List.mem_cons_of_mem _ hp)
    refine tPairs_in hm' (k := fun ps S3 => k ((d1, d2) :: ps) S3) k1 (en.mono x1) (wPairs_mono hm' r S' _ _ _ _ (fun _ _ q => q) (fun y S' q => q.ext x1) q) fun ps S3 vs w3 H3 x3 k3 r3 q3 => ?_
    exact hk ((d1, d2) :: ps) S3 ((x, y) :: vs) w3 H3 (x1.trans x3) k3 ⟨r1.mono x3, r2.mono x3, r3⟩ q3
/-- keys and data -/
def kvsOf : List (D × D) → Option (List Key × List P)
  | [] => some ([], [])
  | (dk, .p v) :: r => match keyOf dk, kvsOf r with
    | some k, some (ks, vs) => some (k :: ks, v :: vs)
    | _, _ => none
  | (_, .cell _) :: _ => none
  | (_, .fn) :: _ => none
theorem kvsOf_ok {w : Wd} : ∀ {ps : List (D × D)} {vs : List (V × V)} {ks : List Key} {ds : List P}, RepPs G w vs ps → kvsOf ps = some (ks, ds) → ∃ kvs : List (Key × V), vs = kvs.map (fun kv => (kV kv.1, kv.2)) ∧ kvs.map (·.1) = ks ∧ Reps G w.I (kvs.map (·.2)) ds
  | [], [], _, _, _, h => by simp only [kvsOf] at h; cases h; exact ⟨[], rfl, rfl, by simpa using Reps.nil⟩
  | (dk, .p d) :: ps, (x, y) :: vs, _, _, ⟨h1, h2, h3⟩, h => by
    simp only [kvsOf] at h
    split at h
    · rename_i k ks vs' e1 e2
      cases h
      obtain ⟨kvs, a1, a2, a3⟩ := kvsOf_ok h3 e2
      have ex := keyOf_ok h1 e1
      subst ex
      exact ⟨(k, y) :: kvs, by rw [a1]; rfl, by rw [← a2]; rfl, Reps.cons h2 a3⟩
    · cases h
  | (_, .cell _) :: _, _ :: _, _, _, _, h => by simp [kvsOf] at h
  | (_, .fn) :: _, _ :: _, _, _, _, h => by simp [kvsOf] at h
  | [], _ :: _, _, _, h, _ => h.elim
  | _ :: _, [], _, _, h, _ => h.elim
theorem putK_new {kvs : List (Key × V)} {k : Key} {v : V} (h : k ∉ kvs.map (·.1)) : putK kvs k v = kvs ++ [(k, v)] := by
  unfold putK
  rw [if_neg]
  intro z
  rw [List.any_eq_true] at z
  obtain ⟨x, hx, e⟩ := z
  exact h (List.mem_map.mpr ⟨x, hx, of_decide_eq_true e⟩)
theorem mergeK_nodup : ∀ {more kvs : List (Key × V)}, ((kvs ++ more).map (·.1)).Nodup → mergeK kvs more = kvs ++ more
  | [], kvs, _ => by simp [mergeK]
  | (k, v) :: r, kvs, h => by
    show mergeK (putK kvs k v) r = _
    have hk : k ∉ kvs.map (·.1) := fun z => by
      rw [List.map_append, List.nodup_append] at h
      exact h.2.2 k z k (by simp) rfl
    rw [putK_new hk, mergeK_nodup (by simpa using h)]
    simp
def wDict (fin : List Key → List P → Store → DK → Prop) (ms : List (WE × WE)) : WE := fun r S Q E => wPairs ms r S (fun ps S1 => match kvsOf ps with
  | some (ks, vs) => ks.Nodup ∧ ks.length ≤ 15 ∧ fin ks vs S1 Q
  | none => False) E
theorem re_dict {keys : List (Option Expr)} {values : List Expr} {ms : List (WE × WE)} (h : RPs G X W pos keys values ms) (hall : keys.all (·.isSome) = true) (hl : keys.length = values.length) (h0 : keys ≠ []) (h15 : keys.length ≤ 15) :
    RE G X W (.Dict keys values pos) (wDict (fun ks vs S Q => Q (.p (.dK ks vs)) S) ms) := by
  refine ⟨PE.imp (pe_disp h.pp hall hl h0 h15) fun σ H Q ⟨w, S, ρ, ok, en, q⟩ => fun p hp => ?_, fun r S Q Q' E E' hq he h' => wPairs_mono h.mono r S _ _ _ _ (fun d S1 q => ?_) he h'⟩
  · obtain ⟨k1, x1⟩ := ok.allocX (o := .dK []) hp
    refine tPairs_in h.mono k1 (en.mono x1) (wPairs_mono h.mono ρ S _ _ _ _ (fun _ _ q => q) (fun y S' q => q.ext x1) q) fun ps S' vs w' H' x2 k2 r2 q2 => ?_
    split at q2
    · rename_i ks ds e
      obtain ⟨nd, l15, q2⟩ := q2
      obtain ⟨kvs, a1, a2, a3⟩ := kvsOf_ok r2 e
      have np : p ∉ w.as := ok.freeAs hp
      have hp2 : H' p = some (.dK []) := x2.frame p _ upd_same np (ok.freeTs hp)
      obtain ⟨np2, ni⟩ := x2.fresh p _ upd_same np
      have ni := ni (ok.freeI hp)
      have l : kvs.length = ks.length := by rw [← a2, List.length_map]
      refine ⟨hp2, kvs, a1, by rw [l]; exact l15, ?_⟩
      rw [mergeK_nodup (kvs := []) (by rw [List.nil_append, a2]; exact nd), List.nil_append]
      have xx : Ext w H ⟨upd w'.I p (.dK kvs), w'.as, w'.ts⟩ (upd H' p (.dK kvs)) := by
        have x3 := x1.trans x2
        obtain ⟨t, ht⟩ := x3.as
        refine ⟨fun b o z => ?_, ⟨t, ht⟩, x3.ts, fun b o z n m => ?_, fun b o z n => ⟨(x3.fresh b o z n).1, fun i => ?_⟩, fun b o z => ?_⟩
        · have := x3.I b o z
          have nb : b ≠ p := fun zz => by rw [zz, ni] at this; cases this
          show upd w'.I p _ b = _
          rw [upd_ne nb]; exact this
        · rw [upd_ne (ne_of_none z hp)]; exact x3.frame b o z n m
        · show upd w'.I p _ b = none
          rw [upd_ne (ne_of_none z hp)]; exact (x3.fresh b o z n).2 i
        · obtain ⟨o', z'⟩ := x3.there b o z
          exact ⟨o', by rw [upd_ne (ne_of_none z hp)]; exact z'⟩
      refine q2 (.ref p) _ _ xx ⟨fun b o z => ?_, k2.len, k2.nd, k2.tb.step rfl (Same.upd _ ni) ⟨[], by simp⟩ fun P ps _ e i n => ⟨by rw [upd_ne (fun z => by rw [z, hp2] at e; cases e)]; exact e, by show upd w'.I p _ P = none; rw [upd_ne (fun z => by rw [z, hp2] at e; cases e)]; exact i, n⟩, fun n c b h1 h2 => ?_⟩ ?_
      · have z : upd w'.I p (.dK kvs) b = some o := z
        by_cases eb : b = p
        · subst eb; rw [upd_same] at z ⊢; exact z
        · rw [upd_ne eb] at z ⊢; exact k2.sub b o z
      · have h2 : w'.as[n]? = some b := h2
        have nb : b ≠ p := fun zz => np2 (zz ▸ List.mem_of_getElem? h2)
        refine (k2.cells n c b h1 h2).grow (Same.upd _ ni) (fun i => ?_) (upd_ne nb)
        show upd w'.I p _ b = none
        rw [upd_ne nb]; exact i
      · simp only [RepD, Rep]
        exact ⟨p, kvs, rfl, upd_same, a2, a3.mono (Same.upd _ ni)⟩
    · exact q2.elim
  · split at q
    · exact ⟨q.1, q.2.1, hq _ _ q.2.2⟩
    · exact q.elim
/-- .. that will change -/
theorem re_dictC {keys : List (Option Expr)} {values : List Expr} {ms : List (WE × WE)} (h : RPs G X W pos keys values ms) (hall : keys.all (·.isSome) = true) (hl : keys.length = values.length) (h0 : keys ≠ []) (h15 : keys.length ≤ 15) :
    RE G X W (.Dict keys values pos) (wDict (fun ks vs S Q => Q (.cell S.length) (S ++ [.dK ks vs])) ms) := by
  refine ⟨PE.imp (pe_disp h.pp hall hl h0 h15) fun σ H Q ⟨w, S, ρ, ok, en, q⟩ => fun p hp => ?_, fun r S Q Q' E E' hq he h' => wPairs_mono h.mono r S _ _ _ _ (fun d S1 q => ?_) he h'⟩
  · obtain ⟨k1, x1⟩ := ok.allocX (o := .dK []) hp
    refine tPairs_in h.mono k1 (en.mono x1) (wPairs_mono h.mono ρ S _ _ _ _ (fun _ _ q => q) (fun y S' q => q.ext x1) q) fun ps S' vs w' H' x2 k2 r2 q2 => ?_
    split at q2
    · rename_i ks ds e
      obtain ⟨nd, l15, q2⟩ := q2
      obtain ⟨kvs, a1, a2, a3⟩ := kvsOf_ok r2 e
      have np : p ∉ w.as := ok.freeAs hp
      have hp2 : H' p = some (.dK []) := x2.frame p _ upd_same np (ok.freeTs hp)
      obtain ⟨np2, ni⟩ := x2.fresh p _ upd_same np
      have ni := ni (ok.freeI hp)
      have l : kvs.length = ks.length := by rw [← a2, List.length_map]
      refine ⟨hp2, kvs, a1, by rw [l]; exact l15, ?_⟩
      rw [mergeK_nodup (kvs := []) (by rw [List.nil_append, a2]; exact nd), List.nil_append]
      have x3 := x1.trans x2
      obtain ⟨t, ht⟩ := x3.as
      have xx : Ext w H ⟨w'.I, w'.as ++ [p], w'.ts⟩ (upd H' p (.dK kvs)) := by
        refine ⟨x3.I, ⟨t ++ [p], by show w'.as ++ [p] = _; rw [ht, List.append_assoc]⟩, x3.ts, fun b o z n m => ?_, fun b o z n => ⟨?_, (x3.fresh b o z n).2⟩, fun b o z => ?_⟩
        · rw [upd_ne (ne_of_none z hp)]; exact x3.frame b o z n m
        · show b ∉ w'.as ++ [p]
          simp only [List.mem_append, List.mem_singleton, not_or]
          exact ⟨(x3.fresh b o z n).1, ne_of_none z hp⟩
        · obtain ⟨o', z'⟩ := x3.there b o z
          exact ⟨o', by rw [upd_ne (ne_of_none z hp)]; exact z'⟩
      refine q2 (.ref p) _ _ xx ⟨fun b o z => ?_, ?_, ?_, k2.tb.step rfl (Same.refl _) ⟨[p], rfl⟩ fun P ps _ e i n => ⟨by rw [upd_ne (fun z => by rw [z, hp2] at e; cases e)]; exact e, i, by show P ∉ w'.as ++ [p]; simp only [List.mem_append, List.mem_singleton, not_or]; exact ⟨n, fun z => by rw [z, hp2] at e; cases e⟩⟩, fun n c b h1 h2 => ?_⟩ ⟨p, rfl, ?_⟩
      · have z : w'.I b = some o := z
        have nb : b ≠ p := fun zz => by rw [zz, ni] at z; cases z
        rw [upd_ne nb]; exact k2.sub b o z
      · show (w'.as ++ [p]).length = (S' ++ [_]).length
        simp [k2.len]
      · show (w'.as ++ [p]).Nodup
        rw [List.nodup_append]
        exact ⟨k2.nd, by simp, fun a ha b hb => by simp at hb; subst hb; exact fun z => np2 (z ▸ ha)⟩
      · have h2 : (w'.as ++ [p])[n]? = some b := h2
        by_cases hn : n < S'.length
        · rw [List.getElem?_append_left hn] at h1
          rw [List.getElem?_append_left (by rw [k2.len]; exact hn)] at h2
          have nb : b ≠ p := fun z => np2 (z ▸ List.mem_of_getElem? h2)
          exact (k2.cells n c b h1 h2).grow (Same.refl _) (fun z => z) (upd_ne nb)
        · have e : n = S'.length := by
            have := (List.getElem?_eq_some_iff.mp h1).1
            simp at this; omega
          subst e
          rw [List.getElem?_append_right (Nat.le_refl _)] at h1
          rw [List.getElem?_append_right (by rw [k2.len]; exact Nat.le_refl _)] at h2
          simp [k2.len] at h1 h2
          subst h1; subst h2
          exact ⟨ni, kvs, upd_same, a2, a3⟩
      · show (w'.as ++ [p])[S'.length]? = some p
        rw [← k2.len]
        simp
    · exact q2.elim
  · split at q
    · exact ⟨q.1, q.2.1, hq _ _ q.2.2⟩
    · exact q.elim

/-! ### targets -/
inductive Tgt where
  | nm (i : Nat)
  | tp (is : List Nat)
def gNames : List Nat → TGs
  | [] => gNil
  | i :: r => gCons (gName i) (gNames r)
def gT (K : PySem.W.Frag) : Tgt → TG
  | .nm i => gName i
  | .tp is => gTup K is.length (gNames is)
def setAll : List Nat → List P → Rho → Rho
  | i :: is, p :: ps, r => setAll is ps (r.set i (some (.p p)))
  | _, _, r => r
def bindT (T : Tgt) (d : D) (r : Rho) : Option Rho := match T with
  | .nm i => some (r.set i (some d))
  | .tp is => match d with
    | .p (.tup ps) => if ps.length = is.length then some (setAll is ps r) else none
    | _ => none
def Tgt.slots : Tgt → List Nat
  | .nm i => [i]
  | .tp is => is
theorem wipe_set {σ : L2.St} {i : Nat} {x : Option V} : ∀ {vs : List Nat}, i ∈ vs → wipe (σ.set i x) vs = wipe σ vs
  | [], h => nomatch h
  | v :: vs, h => by
    unfold wipe
    by_cases e : i ∈ vs
    · rw [wipe_set e]
    · have : i = v := by
        rcases List.mem_cons.mp h with h | h
        · exact h
        · exact absurd h e
      subst this
      have aux : ∀ us : List Nat, (wipe (σ.set i x) us).set i none = (wipe σ us).set i none := by
        intro us
        induction us with
        | nil => unfold wipe; exact List.set_set ..
        | cons u us ih =>
          unfold wipe
          by_cases eu : u = i
          · subst eu; rw [ih]
          · rw [List.set_comm _ _ eu, ih, List.set_comm _ _ (Ne.symm eu)]
      exact aux vs
theorem gNames_ok {w : Wd} {H : Hp} {Q : L2.St → Hp → Prop} : ∀ {is : List Nat} {ps : List P} {vs : List V} {σ : L2.St} {r : Rho}, Reps G w.I vs ps → ps.length = is.length → EnvOk G w σ r →
    (∀ σ', EnvOk G w σ' (setAll is ps r) → (∀ us, (∀ i ∈ is, i ∈ us) → wipe σ' us = wipe σ us) → Q σ' H) → gNames is vs σ H Q
  | [], ps, vs, σ, r, rp, l, en, q => by
    have : ps = [] := List.eq_nil_of_length_eq_zero l
    subst this
    simp only [Reps] at rp
    exact ⟨rp, q σ (by simpa [setAll] using en) fun _ _ => rfl⟩
  | i :: is, [], _, _, _, _, l, _, _ => by simp at l
  | i :: is, p :: ps, vs, σ, r, rp, l, en, q => by
    simp only [Reps] at rp
    obtain ⟨v, t, e, h1, h2⟩ := rp
    refine ⟨v, t, e, gNames_ok h2 (by simpa using l) (en.set (d := .p p) h1 i) fun σ' en' hw => q σ' en' fun us hu => ?_⟩
    rw [hw us fun j hj => hu j (List.mem_cons_of_mem _ hj), wipe_set (hu i List.mem_cons_self)]
theorem gT_ok {K : PySem.W.Frag} (hK : G.K = K) {w : Wd} {S : Store} {H : Hp} {Q : L2.St → Hp → Prop} {T : Tgt} {d : D} {v : V} {σ : L2.St} {r r' : Rho} (k : Wok G w S H) (rv : RepD G w v d) (en : EnvOk G w σ r) (hb : bindT T d r = some r')
    (q : ∀ σ', EnvOk G w σ' r' → (∀ us, (∀ i ∈ T.slots, i ∈ us) → wipe σ' us = wipe σ us) → Q σ' H) : gT K T v σ H Q := by
  cases T with
  | nm i =>
    simp only [bindT] at hb
    cases hb
    exact q _ (en.set rv i) fun us hu => wipe_set (hu i List.mem_cons_self)
  | tp is =>
    simp only [bindT] at hb
    split at hb
    · rename_i ps
      split at hb
      · rename_i l
        cases hb
        obtain ⟨p, xs, rfl, z, rs⟩ := rep_tup.mp rv
        exact ⟨p, xs, rfl, Same.tup k.sub (hK ▸ z), by rw [rs.length]; exact l, gNames_ok rs l en q⟩
      · cases hb
    · cases hb
end
end RB
/-! The lifted layer: what is walked, comprehensions. -/
namespace RB
open PySem PySem.Spec PyProof.Rows L2
section
variable {G : Glob} {X : Cx} {W : WX} {e a b c : Expr} {pos : Pos}

/-- what comes at turn i -/
def Yld (G : Glob) (w : Wd) (ds : List D) : Nat → Hp → V → Hp → Prop := fun i H x H' => ∃ d, ds[i]? = some d ∧
  ((H' = H ∧ ∀ w2, Same w.I w2.I → RepD G w2 x d) ∨ ∃ T xs ps, d = .p (.tup ps) ∧ x = .ref T ∧ H T = none ∧ H' = upd H T (.tup xs) ∧ Reps G w.I xs ps)
def IterOf (G : Glob) (w : Wd) (J : It) (ds : List D) : Prop := Walk J ds.length (fun H => Same w.I H) (Yld G w ds)
def tMi (G : Glob) (W : WX) (m : WA) : TI := fun σ H R => ∃ w S r, Wok G w S H ∧ EnvOk G w σ r ∧ m r S (fun ds S' => ∀ J w' H', Ext w H w' H' → Wok G w' S' H' → IterOf G w' J ds → R J H') (Qx G w H fun c d H' => W c d σ H')
structure RI (G : Glob) (X : Cx) (W : WX) (tg iter : Expr) (m : WA) : Prop where
  pi : PI X tg iter (tMi G W m)
  mono : MonA m
theorem PI.imp {tg iter : Expr} {t u : TI} (h : PI X tg iter t) (i : ∀ σ H Q, u σ H Q → t σ H Q) : PI X tg iter u := ⟨fun pins s σ H Q I q => h.run pins s σ H Q I (i σ H Q q)⟩
/-- the items of a list, a tuple, a text -/
def itemsOf (S : Store) : D → Option (List D)
  | .p (.lst ds) => some (ds.map D.p)
  | .p (.scr ds) => some (ds.map D.p)
  | .p (.tup ds) => some (ds.map D.p)
  | .p (.str z) => some (z.cps.toList.map fun c => .p (.str ⟨#[c]⟩))
  | _ => none
def wIt (m : WE) : WA := fun r S Q E => m r S (fun d S1 => match itemsOf S1 d with
  | some ds => Q ds S1
  | none => False) E
theorem rep_pure {w w2 : Wd} {x : V} {p : P} (r : Rep G w.I x p) (s : Same w.I w2.I) : RepD G w2 x (.p p) := r.mono s
theorem ri_seq {tg : Expr} {m : WE} (hK : X.K = G.K) (he : RE G X W e m) : RI G X W tg e (wIt m) := by
  refine ⟨⟨fun pins s σ H R I ⟨w, S, ρ, ok, en, q⟩ => ?_⟩, fun r S Q Q' E E' hq he' h => he.mono r S _ _ _ _ (fun d S1 q => ?_) he' h⟩
  · have h1 : tM G W m σ H fun x H1 => ∃ d S1 w1, Ext w H w1 H1 ∧ Wok G w1 S1 H1 ∧ RepD G w1 x d ∧ (match itemsOf S1 d with
      | some ds => ∀ J w' H', Ext w H w' H' → Wok G w' S1 H' → IterOf G w' J ds → R J H'
      | none => False) := tM.bind he.mono ok en q (fun _ _ _ z => z) fun d S' v w' H' x k r q => ⟨d, S', w', x, k, r, q⟩
    refine thn (he.pe.run pins s σ H _ I h1) fun v s1 hv => ?_
    obtain ⟨x, H1, I1, rx, d, S1, w1, x1, k1, r1, q1⟩ := hv
    split at q1
    · rename_i ds hi
      unfold itemsOf at hi
      split at hi
      · rename_i ps
        cases hi
        obtain ⟨p, xs, rfl, z, rs⟩ := rep_lst.mp r1
        cases rx
        have hq : SqL X.K H1 p xs := SqL.of (k1.sub _ _ z)
        obtain ⟨its, _, pl, _⟩ := I1.list hq
        have R1 : R (Itl X.K p) H1 := q1 _ w1 H1 x1 k1 (by
          have W1 := walk_list (K := X.K) (a := p) (xs := xs)
          have l := rs.length
          unfold IterOf
          rw [List.length_map, ← l]
          refine W1.mono (fun H2 h2 => SqL.of (h2 _ _ z)) fun i H2 y H3 hi2 _ hy => ?_
          obtain ⟨d, hd, rd⟩ := rs.get' hy.2
          exact ⟨.p d, by rw [List.getElem?_map, hd]; rfl, .inl ⟨hy.1, fun w2 s2 => rep_pure rd s2⟩⟩)
        exact wpAny_pyIter_list pl.isList (pi_one (tk := s1.toks) I1 _ (turn_list p _) ⟨_, Heap.get?_push_size _ rfl, rfl, rfl⟩ R1)
      · rename_i ps
        cases hi
        obtain ⟨p, xs, rfl, z, rs⟩ := rep_scr.mp r1
        cases rx
        rw [← hK] at z
        have hq : SqL X.K H1 p xs := Same.seq k1.sub z
        obtain ⟨its, _, pl, _⟩ := I1.list hq
        have R1 : R (Itl X.K p) H1 := q1 _ w1 H1 x1 k1 (by
          have W1 := walk_list (K := X.K) (a := p) (xs := xs)
          have l := rs.length
          unfold IterOf
          rw [List.length_map, ← l]
          refine W1.mono (fun H2 h2 => Same.seq h2 z) fun i H2 y H3 hi2 _ hy => ?_
          obtain ⟨d, hd, rd⟩ := rs.get' hy.2
          exact ⟨.p d, by rw [List.getElem?_map, hd]; rfl, .inl ⟨hy.1, fun w2 s2 => rep_pure rd s2⟩⟩)
        exact wpAny_pyIter_list pl.isList (pi_one (tk := s1.toks) I1 _ (turn_list p _) ⟨_, Heap.get?_push_size _ rfl, rfl, rfl⟩ R1)
      · rename_i ps
        cases hi
        obtain ⟨p, xs, rfl, z, rs⟩ := rep_tup.mp r1
        cases rx
        rw [← hK] at z
        have hq : SqT X.K H1 p xs := Same.tup k1.sub z
        obtain ⟨its, _, pl, _⟩ := I1.tuple hq
        have R1 : R (Itt X.K p) H1 := q1 _ w1 H1 x1 k1 (by
          have W1 := walk_tup (K := X.K) (a := p) (xs := xs)
          have l := rs.length
          unfold IterOf
          rw [List.length_map, ← l]
          refine W1.mono (fun H2 h2 => Same.tup h2 z) fun i H2 y H3 hi2 _ hy => ?_
          obtain ⟨d, hd, rd⟩ := rs.get' hy.2
          exact ⟨.p d, by rw [List.getElem?_map, hd]; rfl, .inl ⟨hy.1, fun w2 s2 => rep_pure rd s2⟩⟩)
        exact wpAny_pyIter_tuple (show s1.heap.IsTuple p its.toArray from pl) (pi_one (tk := s1.toks) I1 _ (turn_tuple p _) ⟨_, Heap.get?_push_size _ rfl, rfl, rfl⟩ R1)
      · rename_i z
        cases hi
        have ex := rep_str.mp r1
        subst ex
        obtain ⟨t, rfl⟩ := rx
        have R1 : R (Its z) H1 := q1 _ w1 H1 x1 k1 (by
          have W1 := walk_str (z := z)
          unfold IterOf
          rw [List.length_map, Array.length_toList]
          refine W1.mono (fun H2 h2 => trivial) fun i H2 y H3 hi2 _ hy => ?_
          obtain ⟨e1, c, h1, h2⟩ := hy
          exact ⟨.p (.str ⟨#[c]⟩), by rw [List.getElem?_map, Array.getElem?_toList, h1]; rfl, .inl ⟨e1, fun w2 s2 => rep_str.mpr h2⟩⟩)
        cases ha : z.cps.all (· < 128) with
        | false => exact wpAny_pyIter_wide ha (pi_one (tk := s1.toks) I1 _ (turn_str _ z t "str_iterator" (.inr rfl)) ⟨_, Heap.get?_push_size _ rfl, rfl, rfl⟩ R1)
        | true => exact wpAny_pyIter_ascii ha (pi_one (tk := s1.toks) I1 _ (turn_str _ z t "str_ascii_iterator" (.inl rfl)) ⟨_, Heap.get?_push_size _ rfl, rfl, rfl⟩ R1)
      · cases hi
    · exact q1.elim
  · split at q
    · exact hq _ _ q
    · exact q.elim
/-- lo, lo + 1, .. -/
def rngD (lo : Int) (n : Nat) : List D := (List.range n).map fun (i : Nat) => D.p (.int (lo + (i : Int)))
theorem iter_range {w : Wd} {lo : Int} {n : Nat} : IterOf G w (Itr lo n) (rngD lo n) := by
  have W1 := walk_range (lo := lo) (n := n)
  unfold IterOf
  rw [show (rngD lo n).length = n by simp [rngD]]
  refine W1.mono (fun H2 h2 => trivial) fun i H2 y H3 hi2 _ hy => ?_
  exact ⟨.p (.int (lo + (i : Int))), by simp [rngD, hi2], .inl ⟨hy.1, fun w2 s2 => rep_int.mpr hy.2⟩⟩
def wRng (m : WA) : WA := fun r S Q E => m r S (fun ds S1 => match ds with
  | [.p (.int j)] => -(2 ^ 62) ≤ j ∧ j < 2 ^ 62 ∧ Q (rngD 0 j.toNat) S1
  | [.p (.int i), .p (.int j)] => (-(2 ^ 62) ≤ i ∧ i < 2 ^ 62 ∧ -(2 ^ 62) ≤ j ∧ j < 2 ^ 62) ∧ Q (rngD i (j - i).toNat) S1
  | _ => False) E
theorem wRng_mono {m : WA} (h : MonA m) : MonA (wRng m) := fun r S Q Q' E E' hq he h' => h r S _ _ _ _ (fun d S1 q => by
  split at q
  · exact ⟨q.1, q.2.1, hq _ _ q.2.2⟩
  · exact ⟨q.1, hq _ _ q.2⟩
  · exact q.elim) he h'
def wArgN (n : Nat) (m : WA) : WA := fun r S Q E => m r S (fun ds S1 => ds.length = n ∧ Q ds S1) E
theorem ri_range1 {tg : Expr} {p pos : Pos} {m : WE} (hg : Gl X "range") (hm : X.mg "range" = none) (ha : RE G X W a m) (hs : starEach [a] X.env = [(false, eval a X.env)] := by rfl) : RI G X W tg (.Call (.Name "range" p) [a] [] pos) (wRng (wCons m wNil)) := by
  have hA : RA G X W [a] (wCons m wNil) := ra_cons ha ra_nil hs
  refine ⟨PI.imp (pi_range1 hg hm hA.pe hs) fun σ H R ⟨w, S, ρ, ok, en, q⟩ => ?_, wRng_mono hA.mono⟩
  refine ⟨w, S, ρ, ok, en, ha.mono ρ S _ _ _ _ (fun d S' q vs w' H' x k r => ?_) (fun _ _ z => z) q⟩
  obtain ⟨y, rfl, ry⟩ := reps1 r
  simp only [wNil] at q
  split at q
  · rename_i j e
    simp only [List.cons.injEq, and_true] at e
    subst e
    exact ⟨j, by rw [rep_int.mp ry], q.1, q.2.1, q.2.2 _ w' H' x k iter_range⟩
  · rename_i i j e
    simp at e
  · exact q.elim
theorem ri_range2 {tg : Expr} {p pos : Pos} {m1 m2 : WE} (hg : Gl X "range") (hm : X.mg "range" = none) (ha : RE G X W a m1) (hb : RE G X W b m2) (hs : starEach [a, b] X.env = [(false, eval a X.env), (false, eval b X.env)] := by rfl) (hs2 : starEach [b] X.env = [(false, eval b X.env)] := by rfl) :
    RI G X W tg (.Call (.Name "range" p) [a, b] [] pos) (wRng (wCons m1 (wCons m2 wNil))) := by
  have hA : RA G X W [a, b] (wCons m1 (wCons m2 wNil)) := ra_cons ha (ra_cons hb ra_nil hs2) (by rw [hs, hs2])
  refine ⟨PI.imp (pi_range2 hg hm hA.pe hs hs2) fun σ H R ⟨w, S, ρ, ok, en, q⟩ => ?_, wRng_mono hA.mono⟩
  refine ⟨w, S, ρ, ok, en, ha.mono ρ S _ _ _ _ (fun d S' q0 => hb.mono ρ S' _ _ _ _ (fun d' S'' q1 vs w' H' x k r => ?_) (fun _ _ z => z) q0) (fun _ _ z => z) q⟩
  obtain ⟨y, z, rfl, ry, rz⟩ := reps2 r
  simp only [wNil] at q1
  split at q1
  · rename_i j e
    simp at e
  · rename_i i j e
    simp only [List.cons.injEq, and_true] at e
    obtain ⟨e1, e2⟩ := e
    subst e1; subst e2
    exact ⟨i, j, by rw [rep_int.mp ry, rep_int.mp rz], q1.1, q1.2 _ w' H' x k iter_range⟩
  · exact q1.elim

/-! ### comprehensions -/
abbrev WF : WX := fun _ _ _ _ => False
def wipeR : Rho → List Nat → Rho
  | r, [] => r
  | r, v :: vs => (wipeR r vs).set v none
theorem wipeR_len (r : Rho) : ∀ vs : List Nat, (wipeR r vs).length = r.length
  | [] => rfl
  | v :: vs => by unfold wipeR; rw [List.length_set, wipeR_len r vs]
theorem wipeR_some {r : Rho} {i : Nat} {x : D} : ∀ {vs : List Nat}, (wipeR r vs)[i]? = some (some x) → r[i]? = some (some x) ∧ i ∉ vs
  | [], h => ⟨h, by simp⟩
  | v :: vs, h => by
    unfold wipeR at h
    by_cases hi : v = i
    · subst hi
      by_cases hv : v < (wipeR r vs).length
      · rw [List.getElem?_set_self hv] at h; cases h
      · rw [List.getElem?_eq_none (by simpa using hv)] at h; cases h
    · rw [List.getElem?_set_ne hi] at h
      obtain ⟨h1, h2⟩ := wipeR_some h
      exact ⟨h1, by simp only [List.mem_cons, not_or]; exact ⟨fun e => hi e.symm, h2⟩⟩
theorem wipe_get {σ : L2.St} {i : Nat} : ∀ {vs : List Nat}, i ∉ vs → (wipe σ vs)[i]? = σ[i]?
  | [], _ => rfl
  | v :: vs, h => by
    unfold wipe
    simp only [List.mem_cons, not_or] at h
    rw [List.getElem?_set_ne (Ne.symm h.1)]
    exact wipe_get h.2
theorem EnvOk.wipe {w : Wd} {σ : L2.St} {r : Rho} (k : EnvOk G w σ r) (vs : List Nat) : EnvOk G w (L2.wipe σ vs) (wipeR r vs) := by
  refine ⟨by rw [wipeR_len, wipe_length]; exact k.len, fun i d h => ?_⟩
  obtain ⟨h1, h2⟩ := wipeR_some h
  rw [wipe_get h2]
  exact k.at_ i d h1
structure RTs (G : Glob) (X : Cx) (W : WX) (ifs : List Expr) (m : WT) : Prop where
  pts : PTs X ifs (tMt G W m)
  mono : MonT m
def wYes : WT := fun _ S Q _ => Q true S
theorem PTs.imp {ifs : List Expr} {t u : TT} (h : PTs X ifs t) (i : ∀ σ H Q, u σ H Q → t σ H Q) : PTs X ifs u := ⟨fun pins s σ H Q I q => h.run pins s σ H Q I (i σ H Q q)⟩
theorem rts_nil : RTs G X W [] wYes := ⟨PTs.imp pts_nil fun σ H Q ⟨w, S, ρ, ok, en, q⟩ => q w H (Ext.refl w H) ok, fun _ _ _ _ _ _ hq _ h => hq _ _ h⟩
theorem rts_one {t : WT} (h : RT G X W c t) : RTs G X W [c] t := ⟨pts_one h.pe, h.mono⟩
/-- the turns -/
def lcRun (T : Tgt) (mt : WT) (me : WE) (r0 : Rho) : List D → List P → Store → (List P → Store → Prop) → Prop
  | [], acc, S, k => k acc S
  | d :: ds, acc, S, k => match bindT T d r0 with
    | none => False
    | some r => mt r S (fun b S1 => if b = true then me r S1 (fun x S2 => match x with
        | .p p => acc.length < sizeLine ∧ lcRun T mt me r0 ds (acc ++ [p]) S2 k
        | _ => False) (fun _ _ => False) else lcRun T mt me r0 ds acc S1 k) (fun _ _ => False)
theorem lcRun_mono {T : Tgt} {mt : WT} {me : WE} (ht : MonT mt) (he : Mon me) {r0 : Rho} : ∀ {ds : List D} {acc : List P} {S : Store} {k k' : List P → Store → Prop}, (∀ ps S, k ps S → k' ps S) → lcRun T mt me r0 ds acc S k → lcRun T mt me r0 ds acc S k'
  | [], _, _, _, _, hk, h => hk _ _ h
  | d :: ds, acc, S, k, k', hk, h => by
    unfold lcRun at h ⊢
    split at h
    · exact h.elim
    · refine ht _ _ _ _ _ _ (fun b S1 q => ?_) (fun _ _ z => z) h
      split at q
      · rename_i hb
        rw [if_pos hb]
        refine he _ _ _ _ _ _ (fun x S2 q => ?_) (fun _ _ z => z) q
        split at q
        · exact ⟨q.1, lcRun_mono ht he hk q.2⟩
        · exact q.elim
      · rename_i hb
        rw [if_neg hb]
        exact lcRun_mono ht he hk q
def wLC (mi : WA) (T : Tgt) (mt : WT) (me : WE) (vs : List Nat) : WE := fun r S Q E => mi r S (fun ds S1 => lcRun T mt me (wipeR r vs) ds [] S1 (fun ps S2 => Q (.p (.lst ps)) S2)) E
theorem mon_lc {mi : WA} {T : Tgt} {mt : WT} {me : WE} {vs : List Nat} (hi : MonA mi) (ht : MonT mt) (he : Mon me) : Mon (wLC mi T mt me vs) := fun r S Q Q' E E' hq he' h => hi r S _ _ _ _ (fun ds S1 q => lcRun_mono ht he (fun ps S z => hq _ _ z) q) he' h
theorem Wok.touch {w : Wd} {S : Store} {H : Hp} {p : Addr} {o : HO} (k : Wok G w S H) (h1 : w.I p = none) (h2 : p ∉ w.as) (h0 : p ∉ w.ts) : Wok G w S (upd H p o) := by
  refine ⟨fun b u h => ?_, k.len, k.nd, k.tb.step rfl (Same.refl _) ⟨[], by simp⟩ fun P ps m e i n => ⟨by rw [upd_ne (fun z => h0 (by rw [← z]; exact m))]; exact e, i, n⟩, fun n c a h3 h4 => ?_⟩
  · have nb : b ≠ p := fun z => by rw [z, h1] at h; cases h
    rw [upd_ne nb]; exact k.sub b u h
  · have ne : a ≠ p := fun z => h2 (z ▸ List.mem_of_getElem? h4)
    exact (k.cells n c a h3 h4).grow (Same.refl _) (fun z => z) (upd_ne ne)
theorem Ext.touch {w w' : Wd} {H H' : Hp} {p : Addr} {o : HO} (x : Ext w H w' H') (hp : H p = none) : Ext w H w' (upd H' p o) :=
  ⟨x.I, x.as, x.ts, fun b u h n m => by rw [upd_ne (ne_of_none h hp)]; exact x.frame b u h n m, x.fresh, fun b u h => by
    obtain ⟨u', h'⟩ := x.there b u h
    exact ⟨u', by rw [upd_ne (ne_of_none h hp)]; exact h'⟩⟩
/-- a thing that stood aside is now data -/
theorem Wok.take {w : Wd} {S : Store} {H : Hp} {p : Addr} {o : HO} (k : Wok G w S H) (hp : H p = some o) (h1 : w.I p = none) (h2 : p ∉ w.as) (h0 : p ∉ w.ts) : Wok G ⟨upd w.I p o, w.as, w.ts⟩ S H := by
  refine ⟨fun b u h => ?_, k.len, k.nd, k.tb.step rfl (Same.upd _ h1) ⟨[], by simp⟩ fun P ps m e i n => ⟨e, by show upd w.I p o P = none; rw [upd_ne (fun z => h0 (by rw [← z]; exact m))]; exact i, n⟩, fun n c a h3 h4 => ?_⟩
  · have h : upd w.I p o b = some u := h
    by_cases e : b = p
    · subst e; rw [upd_same] at h; cases h; exact hp
    · rw [upd_ne e] at h; exact k.sub b u h
  · have h4 : w.as[n]? = some a := h4
    have ne : a ≠ p := fun z => h2 (z ▸ List.mem_of_getElem? h4)
    refine (k.cells n c a h3 h4).grow (Same.upd _ h1) (fun z => ?_) rfl
    show upd w.I p o a = none
    rw [upd_ne ne]; exact z
theorem Ext.take {w w' : Wd} {H H' : Hp} {p : Addr} {o : HO} (x : Ext w H w' H') (hp : H p = none) (h1 : w'.I p = none) : Ext w H ⟨upd w'.I p o, w'.as, w'.ts⟩ H' :=
  ⟨x.I.trans (Same.upd _ h1), x.as, x.ts, x.frame, fun b u h n => ⟨(x.fresh b u h n).1, fun z => by
    show upd w'.I p o b = none
    rw [upd_ne (ne_of_none h hp)]
    exact (x.fresh b u h n).2 z⟩, x.there⟩
/-- the reading of a comprehension -/
theorem lc_inG (hK : X.K = G.K) {mi : WA} {T : Tgt} {mt : WT} {me : WE} {own : List Nat} (hi : MonA mi) (ht : MonT mt) (he : Mon me) (hT : ∀ i ∈ T.slots, i ∈ own) {σ : L2.St} {H : Hp} {Q : VK} {Kf : List P → Store → Prop} {w : Wd} {S : Store} {ρ : Rho} (ok : Wok G w S H) (en : EnvOk G w σ ρ)
    (q : mi ρ S (fun ds S1 => lcRun T mt me (wipeR ρ own) ds [] S1 Kf) (Qx G w H fun c d H' => W c d σ H'))
    (fin : ∀ (acc : List P) (S2 : Store) (w2 : Wd) (Hc : Hp) (D : Addr) (vs : List V), Ext w H w2 Hc → Wok G w2 S2 Hc → Hc D = some (.lst vs) → w2.I D = none → D ∉ w2.as → Reps G w2.I vs acc → H D = none → Kf acc S2 → Q (.ref D) Hc) :
    tLc (tMi G W mi) (gT X.K T) (tMt G WF mt) (tM G WF me) own σ H Q := by
  refine ⟨w, S, ρ, ok, en, hi ρ S _ _ _ _ (fun ds S1 q1 J w1 H1 x1 k1 it D hD => ?_) (fun _ _ z => z) q⟩
  have en1 := en.mono x1
  obtain ⟨k1', x1'⟩ := k1.allocX (o := .lst []) hD
  have nI : w1.I D = none := k1.freeI hD
  have nA : D ∉ w1.as := k1.freeAs hD
  refine lc_it it (fun i Hc => ∃ w2 S2 acc vs, Ext w1 H1 w2 Hc ∧ Wok G w2 S2 Hc ∧ Hc D = some (.lst vs) ∧ w2.I D = none ∧ D ∉ w2.as ∧ Reps G w2.I vs acc ∧ lcRun T mt me (wipeR ρ own) (ds.drop i) acc S2 Kf) ?_ ?_ ?_ ?_
  · exact ⟨w1, S1, [], [], x1', k1', upd_same, nI, nA, Reps.nil, by simpa using q1⟩
  · rintro i Hc _ ⟨w2, S2, acc, vs, x2, k2, _⟩
    exact x2.I.trans k2.sub
  · rintro i x Hc Hd hi' ⟨w2, S2, acc, vs, x2, k2, hDc, nI2, nA2, rs, run⟩ ⟨d, hd, y⟩
    have hds : ds.drop i = d :: ds.drop (i + 1) := by
      rw [List.drop_eq_getElem_cons hi']
      congr 1
      rw [List.getElem?_eq_getElem hi'] at hd
      exact Option.some.inj hd
    rw [hds] at run
    unfold lcRun at run
    -- the world behind the item
    have big : ∃ w3, Ext w1 H1 w3 Hd ∧ Wok G w3 S2 Hd ∧ Hd D = some (.lst vs) ∧ w3.I D = none ∧ D ∉ w3.as ∧ Reps G w3.I vs acc ∧ RepD G w3 x d := by
      rcases y with ⟨e, y⟩ | ⟨Tn, xs, ps, e1, e2, e3, e4, rp⟩
      · subst e
        exact ⟨w2, x2, k2, hDc, nI2, nA2, rs, y w2 x2.I⟩
      · subst e1; subst e2; subst e4
        obtain ⟨k3, x3⟩ := k2.alloc (o := .tup xs) e3
        have nD : D ≠ Tn := ne_of_none hDc e3
        refine ⟨_, x2.trans x3, k3, by rw [upd_ne nD]; exact hDc, ?_, nA2, rs.mono x3.I, rep_tup.mpr ⟨Tn, xs, rfl, SqT.of upd_same, rp.mono (x2.I.trans x3.I)⟩⟩
        show upd w2.I Tn _ D = none
        rw [upd_ne nD]; exact nI2
    obtain ⟨w3, x3, k3, hD3, nI3, nA3, rs3, rx⟩ := big
    split at run
    · exact run.elim
    · rename_i r hb
      refine gT_ok hK.symm k3 rx ((en1.mono x3).wipe own) hb fun σ2 en2 hw => ⟨?_, ?_⟩
      · rw [hw own hT]
        have : ∀ us : List Nat, wipe (wipe σ us) us = wipe σ us := by
          intro us
          have g : ∀ vs : List Nat, (∀ v ∈ vs, v ∈ us) → ∀ τ : L2.St, wipe τ us = wipe σ us → wipe (wipe τ vs) us = wipe σ us := by
            intro vs
            induction vs with
            | nil => intro _ τ h; exact h
            | cons v vs ih =>
              intro hv τ h
              have := ih (fun u hu => hv u (List.mem_cons_of_mem _ hu)) τ h
              show wipe ((wipe τ vs).set v none) us = _
              rw [wipe_set (hv v List.mem_cons_self)]
              exact this
          exact g us (fun _ h => h) σ rfl
        exact this own
      · refine ⟨w3, S2, r, k3, en2, ht r S2 _ _ _ _ (fun b S3 q3 w4 H4 x4 k4 => ?_) (fun _ _ z => z.elim) run⟩
        have hD4 := x4.frame D _ hD3 nA3 (k3.notTs hD3 fun _ z => nomatch z)
        obtain ⟨nA4, nI4⟩ := x4.fresh D _ hD3 nA3
        have nI4 := nI4 nI3
        split at q3
        · rename_i hb'
          subst hb'
          refine iteT ?_
          refine ⟨w4, S3, r, k4, en2.mono x4, he r S3 _ _ _ _ (fun x5 S5 q5 v w5 H5 x5' k5 r5 => ?_) (fun _ _ z => z.elim) q3⟩
          have hD5 := x5'.frame D _ hD4 nA4 (k4.notTs hD4 fun _ z => nomatch z)
          obtain ⟨nA5, nI5⟩ := x5'.fresh D _ hD4 nA4
          have nI5 := nI5 nI4
          split at q5
          · rename_i p
            have rs5 := (rs3.mono x4.I).mono x5'.I
            refine ⟨vs, hD5, by rw [rs5.length]; exact q5.1, w5, S5, acc ++ [p], vs ++ [v], ((x3.trans x4).trans x5').touch hD, k5.touch nI5 nA5 (k5.notTs hD5 fun _ z => nomatch z), upd_same, nI5, nA5, rs5.append (Reps.cons r5 Reps.nil), q5.2⟩
          · exact q5.elim
        · rename_i hb'
          have hb' : b = false := by simpa using hb'
          subst hb'
          refine iteF ?_
          exact ⟨w4, S3, acc, vs, x3.trans x4, k4, hD4, nI4, nA4, rs3.mono x4.I, q3⟩
  · rintro Hc ⟨w2, S2, acc, vs, x2, k2, hDc, nI2, nA2, rs, run⟩
    rw [List.drop_length] at run
    have nD0 : H D = none := by
      cases z : H D with
      | none => rfl
      | some o =>
        obtain ⟨o', z'⟩ := x1.there D o z
        rw [hD] at z'; cases z'
    exact fin acc S2 w2 Hc D vs (x1.trans x2) k2 hDc nI2 nA2 rs nD0 run
theorem lc_in (hK : X.K = G.K) {mi : WA} {T : Tgt} {mt : WT} {me : WE} {own : List Nat} (hi : MonA mi) (ht : MonT mt) (he : Mon me) (hT : ∀ i ∈ T.slots, i ∈ own) {σ : L2.St} {H : Hp} {Q : VK} (h : tM G W (wLC mi T mt me own) σ H Q) :
    tLc (tMi G W mi) (gT X.K T) (tMt G WF mt) (tM G WF me) own σ H Q := by
  obtain ⟨w, S, ρ, ok, en, q⟩ := h
  exact lc_inG hK hi ht he hT ok en q fun acc S2 w2 Hc D vs x k2 hDc nI2 nA2 rs nD0 run => run (.ref D) _ Hc (x.take nD0 nI2) (k2.take hDc nI2 nA2 (k2.notTs hDc fun _ z => nomatch z)) (rep_lst.mpr ⟨D, vs, rfl, upd_same, rs.mono (Same.upd _ nI2)⟩)
theorem re_lc {elt tg iter : Expr} {ifs : List Expr} {scope : Scope} {own : List (Str × Nat)} {pos : Pos} {mi : WA} {T : Tgt} {mt : WT} {me : WE} (hK : X.K = G.K) (hc : X.calm = true) (hN : X.N.Nodup) (hi : RI G X W tg iter mi) (ok : BlkOk X.N X.env.scope scope own) (hT : ∀ i ∈ T.slots, i ∈ own.map (·.2))
    (hg : ∀ (s : Shared) (H : Hp) (C : Addr) (cl : List (Str × Addr)) (fp : List Addr), PG (X.blk s H scope (compEnvC scope cl C X.env) fp) tg (gT X.K T)) (ht : ∀ (s : Shared) (H : Hp) (C : Addr) (cl : List (Str × Addr)) (fp : List Addr), RTs G (X.blk s H scope (compEnvC scope cl C X.env) fp) WF ifs mt)
    (he : ∀ (s : Shared) (H : Hp) (C : Addr) (cl : List (Str × Addr)) (fp : List Addr), RE G (X.blk s H scope (compEnvC scope cl C X.env) fp) WF elt me) (hs : ∀ x, foldedSetIterable iter X.env x = pure x := by intro _; rfl) :
    RE G X W (.ListComp elt [⟨tg, iter, ifs, 0⟩] scope pos) (wLC mi T mt me (own.map (·.2))) :=
  ⟨PE.imp (pe_lc hc hN hi.pi ok hg (fun s H C cl fp => (ht s H C cl fp).pts) (fun s H C cl fp => (he s H C cl fp).pe) hs) fun σ H Q h => lc_in hK hi.mono (ht X.s_0 X.H_0 0 [] []).mono (he X.s_0 X.H_0 0 [] []).mono hT h, mon_lc hi.mono (ht X.s_0 X.H_0 0 [] []).mono (he X.s_0 X.H_0 0 [] []).mono⟩
end
end RB
/-! The lifted layer: statements. -/
namespace RB
open PySem PySem.Spec PyProof.Rows L2

/-- what is wanted behind a statement -/
structure DE where
  nx : Rho → Store → Prop
  rt : DK
  bk : Rho → Store → Prop
  ct : Rho → Store → Prop
  xc : Rho → EK
abbrev WS := DE → Rho → Store → Prop
def Sn (G : Glob) (w : Wd) (H : Hp) (N : L2.St → Hp → Prop) : Rho → Store → Prop := fun r S => ∀ σ w' H', Ext w H w' H' → Wok G w' S H' → EnvOk G w' σ r → N σ H'
def Sx (G : Glob) (w : Wd) (H : Hp) (W : WX) : Rho → EK := fun r x S => ∀ σ cls dd w' H', Ext w H w' H' → Wok G w' S H' → EnvOk G w' σ r → RepX G w' cls dd x → W cls dd σ H'
def lowE (G : Glob) (w : Wd) (H : Hp) (W : WX) (D : Ends) : DE := ⟨Sn G w H D.nx, Qv G w H D.rt, Sn G w H D.bk, Sn G w H D.ct, Sx G w H W⟩
def tMs (G : Glob) (W : WX) (m : WS) : TS := fun D σ H => ∃ w S r, Wok G w S H ∧ EnvOk G w σ r ∧ m (lowE G w H W D) r S
structure DE.le (D D' : DE) : Prop where
  nx : ∀ r S, D.nx r S → D'.nx r S
  rt : ∀ d S, D.rt d S → D'.rt d S
  bk : ∀ r S, D.bk r S → D'.bk r S
  ct : ∀ r S, D.ct r S → D'.ct r S
  xc : ∀ r x S, D.xc r x S → D'.xc r x S
def MonS (m : WS) : Prop := ∀ D D' r S, DE.le D D' → m D r S → m D' r S
structure RS (G : Glob) (X : Cx) (W : WX) (st : Stmt) (m : WS) : Prop where
  ps : PS X st (tMs G W m)
  mono : MonS m
structure RSs (G : Glob) (X : Cx) (W : WX) (st : List Stmt) (m : WS) : Prop where
  ps : PSs X st (tMs G W m)
  mono : MonS m
theorem PS.imp {X : Cx} {e : Stmt} {t u : TS} (h : PS X e t) (i : ∀ D σ H, u D σ H → t D σ H) : PS X e u := ⟨fun pins s σ H D I q => h.run pins s σ H D I (i D σ H q)⟩
theorem PSs.imp {X : Cx} {e : List Stmt} {t u : TS} (h : PSs X e t) (i : ∀ D σ H, u D σ H → t D σ H) : PSs X e u := ⟨fun pins s σ H D I q => h.run pins s σ H D I (i D σ H q)⟩
section
variable {G : Glob} {X : Cx} {W : WX} {e a b c : Expr} {pos : Pos} {st : Stmt} {rest : List Stmt}
theorem Sn.ext {w w1 : Wd} {H H1 : Hp} {N : L2.St → Hp → Prop} (x : Ext w H w1 H1) {r : Rho} {S : Store} (q : Sn G w H N r S) : Sn G w1 H1 N r S := fun σ w' H' y k en => q σ w' H' (x.trans y) k en
theorem Sx.ext {w w1 : Wd} {H H1 : Hp} (x : Ext w H w1 H1) {r : Rho} {y : Exc} {S : Store} (q : Sx G w H W r y S) : Sx G w1 H1 W r y S := fun σ c d w' H' z k en rx => q σ c d w' H' (x.trans z) k en rx
theorem lowE.ext {w w1 : Wd} {H H1 : Hp} {D : Ends} (x : Ext w H w1 H1) : DE.le (lowE G w H W D) (lowE G w1 H1 W D) := ⟨fun _ _ q => q.ext x, fun _ _ q => q.ext x, fun _ _ q => q.ext x, fun _ _ q => q.ext x, fun _ _ _ q => q.ext x⟩
theorem Sx.at_ {w : Wd} {H : Hp} {σ : L2.St} {r : Rho} (en : EnvOk G w σ r) {y : Exc} {S : Store} (q : Sx G w H W r y S) : Qx G w H (fun c d H' => W c d σ H') y S := fun c d w' H' x k rx => q σ c d w' H' x k (en.mono x) rx
/-- an expression's part of a statement -/
theorem tM.low {m : WE} (hm : Mon m) {σ : L2.St} {H : Hp} {w : Wd} {S : Store} {r : Rho} {k : DK} {Q : VK} (ok : Wok G w S H) (en : EnvOk G w σ r) (h : m r S k (Sx G w H W r))
    (hk : ∀ d S' v w' H', Ext w H w' H' → Wok G w' S' H' → RepD G w' v d → k d S' → Q v H') : tM G W m σ H Q :=
  tM.bind hm ok en (hm r S _ _ _ _ (fun _ _ q => q) (fun x S' q => q.at_ en) h) (fun _ _ _ z => z) hk
theorem tMt.low {m : WT} (hm : MonT m) {σ : L2.St} {H : Hp} {w : Wd} {S : Store} {r : Rho} {k : Bool → Store → Prop} {Q : Bool → Hp → Prop} (ok : Wok G w S H) (en : EnvOk G w σ r) (h : m r S k (Sx G w H W r))
    (hk : ∀ b S' w' H', Ext w H w' H' → Wok G w' S' H' → k b S' → Q b H') : tMt G W m σ H Q :=
  tMt.bind hm ok en (hm r S _ _ _ _ (fun _ _ q => q) (fun x S' q => q.at_ en) h) (fun _ _ _ z => z) hk

/-! ### blocks -/
def wNext : WS := fun D r S => D.nx r S
def wSeq (m1 m2 : WS) : WS := fun D r S => m1 { D with nx := m2 D } r S
theorem rss_nil : RSs G X W [] wNext := ⟨PSs.imp pss_nil fun D σ H ⟨w, S, ρ, ok, en, q⟩ => q σ w H (Ext.refl w H) ok en, fun _ _ _ _ l h => l.nx _ _ h⟩
theorem rss_cons {m1 m2 : WS} (h1 : RS G X W st m1) (h2 : RSs G X W rest m2) : RSs G X W (st :: rest) (wSeq m1 m2) := by
  refine ⟨PSs.imp (pss_cons h1.ps h2.ps) fun D σ H ⟨w, S, ρ, ok, en, q⟩ => ?_, fun D D' r S l h => h1.mono { D with nx := m2 D } { D' with nx := m2 D' } r S ⟨fun r' S' q => h2.mono D D' r' S' l q, l.rt, l.bk, l.ct, l.xc⟩ h⟩
  refine ⟨w, S, ρ, ok, en, h1.mono { lowE G w H W D with nx := m2 (lowE G w H W D) } _ _ _ ⟨fun r' S' q σ' w' H' x k en' => ?_, fun _ _ q => q, fun _ _ q => q, fun _ _ q => q, fun _ _ _ q => q⟩ q⟩
  exact ⟨w', S', r', k, en', h2.mono _ _ _ _ (lowE.ext x) q⟩
theorem rss_one {m : WS} (h : RS G X W st m) : RSs G X W [st] m := ⟨pss_one h.ps, h.mono⟩
def wBreak : WS := fun D r S => D.bk r S
def wCont : WS := fun D r S => D.ct r S
theorem rs_pass : RS G X W (.Pass pos) wNext := ⟨PS.imp ps_pass fun D σ H ⟨w, S, ρ, ok, en, q⟩ => q σ w H (Ext.refl w H) ok en, fun _ _ _ _ l h => l.nx _ _ h⟩
theorem rs_break : RS G X W (.Break pos) wBreak := ⟨PS.imp ps_break fun D σ H ⟨w, S, ρ, ok, en, q⟩ => q σ w H (Ext.refl w H) ok en, fun _ _ _ _ l h => l.bk _ _ h⟩
theorem rs_cont : RS G X W (.Continue pos) wCont := ⟨PS.imp ps_continue fun D σ H ⟨w, S, ρ, ok, en, q⟩ => q σ w H (Ext.refl w H) ok en, fun _ _ _ _ l h => l.ct _ _ h⟩
def wRet (m : WE) : WS := fun D r S => m r S D.rt (D.xc r)
theorem rs_ret {m : WE} (h : RE G X W e m) : RS G X W (.Return (some e) pos) (wRet m) :=
  ⟨PS.imp (ps_ret h.pe) fun D σ H ⟨w, S, ρ, ok, en, q⟩ => tM.low h.mono ok en q fun d S' v w' H' x k r q => q v w' H' x k r, fun D D' r S l q => h.mono _ _ _ _ _ _ l.rt (l.xc r) q⟩
def wRetN : WS := fun D _ S => D.rt (.p .non) S
theorem rs_retN : RS G X W (.Return none pos) wRetN := ⟨PS.imp ps_retN fun D σ H ⟨w, S, ρ, ok, en, q⟩ => q _ w H (Ext.refl w H) ok (rep_non.mpr rfl), fun _ _ _ _ l h => l.rt _ _ h⟩
def wDrop (m : WE) : WS := fun D r S => m r S (fun _ S1 => D.nx r S1) (D.xc r)
theorem rs_expr {m : WE} (h : RE G X W e m) (hs : swapsWith e none pos.line X.env = pure false := by rfl) : RS G X W (.Expr e pos) (wDrop m) :=
  ⟨PS.imp (ps_expr h.pe hs) fun D σ H ⟨w, S, ρ, ok, en, q⟩ => tM.low h.mono ok en q fun d S' v w' H' x k r q => q σ w' H' x k (en.mono x), fun D D' r S l q => h.mono _ _ _ _ _ _ (fun _ _ q => l.nx _ _ q) (l.xc r) q⟩
def wSet (i : Nat) (m : WE) : WS := fun D r S => m r S (fun d S1 => D.nx (r.set i (some d)) S1) (D.xc r)
theorem mon_set {i : Nat} {m : WE} (h : Mon m) : MonS (wSet i m) := fun D D' r S l q => h _ _ _ _ _ _ (fun _ _ q => l.nx _ _ q) (l.xc r) q
theorem rs_set {i : Nat} {x : Str} {pos' : Pos} {m : WE} (hN : X.N.Nodup) (hi : X.N[i]? = some x) (hx : Loc X.env.scope x) (h : RE G X W e m) (hs : swapsWith e (some (.Name x pos')) pos.line X.env = pure false := by rfl) (hf : X.fn x = true ∨ X.env.scope.names.lookup x = some .local := by first | exact .inl rfl | exact .inr rfl | assumption) :
    RS G X W (.Assign [.Name x pos'] e pos) (wSet i m) :=
  ⟨PS.imp (ps_set hN hi hx h.pe hs hf) fun D σ H ⟨w, S, ρ, ok, en, q⟩ => tM.low h.mono ok en q fun d S' v w' H' x k r q => q _ w' H' x k ((en.mono x).set r i), mon_set h.mono⟩
theorem rs_setLc {i : Nat} {y : Str} {py spos : Pos} {elt tg iter : Expr} {ifs : List Expr} {scope : Scope} {own : List (Str × Nat)} {pos : Pos} {mi : WA} {T : Tgt} {mt : WT} {me : WE} (hK : X.K = G.K) (hc : X.calm = true) (hN : X.N.Nodup) (hy : X.N[i]? = some y) (hyl : X.env.scope.names.lookup y = some .local)
    (hsw : swapsWith (.ListComp elt [⟨tg, iter, ifs, 0⟩] scope pos) (some (.Name y py)) spos.line X.env = pure true) (hi : RI G X W tg iter mi) (ok : BlkOk X.N X.env.scope scope own) (hT : ∀ i ∈ T.slots, i ∈ own.map (·.2))
    (hg : ∀ (s : Shared) (H : Hp) (C : Addr) (cl : List (Str × Addr)) (fp : List Addr), PG (X.blk s H scope (compEnvC scope cl C X.env) fp) tg (gT X.K T)) (ht : ∀ (s : Shared) (H : Hp) (C : Addr) (cl : List (Str × Addr)) (fp : List Addr), RTs G (X.blk s H scope (compEnvC scope cl C X.env) fp) WF ifs mt)
    (he : ∀ (s : Shared) (H : Hp) (C : Addr) (cl : List (Str × Addr)) (fp : List Addr), RE G (X.blk s H scope (compEnvC scope cl C X.env) fp) WF elt me) (hs : ∀ x, foldedSetIterable iter X.env x = pure x := by intro _; rfl) :
    RS G X W (.Assign [.Name y py] (.ListComp elt [⟨tg, iter, ifs, 0⟩] scope pos) spos) (wSet i (wLC mi T mt me (own.map (·.2)))) :=
  ⟨PS.imp (ps_setLc hc hN hy hyl hsw hi.pi ok hg (fun s H C cl fp => (ht s H C cl fp).pts) (fun s H C cl fp => (he s H C cl fp).pe) hs) fun D σ H ⟨w, S, ρ, ok, en, q⟩ =>
    lc_in hK hi.mono (ht X.s_0 X.H_0 0 [] []).mono (he X.s_0 X.H_0 0 [] []).mono hT (tM.low (mon_lc hi.mono (ht X.s_0 X.H_0 0 [] []).mono (he X.s_0 X.H_0 0 [] []).mono) ok en q fun d S' v w' H' x k r q => q _ w' H' x k ((en.mono x).set r i)),
    mon_set (mon_lc hi.mono (ht X.s_0 X.H_0 0 [] []).mono (he X.s_0 X.H_0 0 [] []).mono)⟩
def wIfS (t : WT) (m1 m2 : WS) : WS := fun D r S => t r S (fun b S1 => if b = true then m1 D r S1 else m2 D r S1) (D.xc r)
theorem rs_if {t : WT} {m1 m2 : WS} {bd el : List Stmt} (hc : RT G X W c t) (h1 : RSs G X W bd m1) (h2 : RSs G X W el m2) : RS G X W (.If c bd el pos) (wIfS t m1 m2) := by
  refine ⟨PS.imp (ps_if hc.pe h1.ps h2.ps) fun D σ H ⟨w, S, ρ, ok, en, q⟩ => ?_, fun D D' r S l q => hc.mono _ _ _ _ _ _ (fun b S1 q => ?_) (l.xc r) q⟩
  · refine tMt.low hc.mono ok en q fun b S' w' H' x k q => ?_
    cases b with
    | true => exact iteT ⟨w', S', ρ, k, en.mono x, h1.mono _ _ _ _ (lowE.ext x) (by simpa using q)⟩
    | false => exact iteF ⟨w', S', ρ, k, en.mono x, h2.mono _ _ _ _ (lowE.ext x) (by simpa using q)⟩
  · cases b with
    | true => exact iteT (h1.mono _ _ _ _ l (by simpa using q))
    | false => exact iteF (h2.mono _ _ _ _ l (by simpa using q))
/-! ### for -/
def forRun (T : Tgt) (mb : WS) (D : DE) : List RB.D → Rho → Store → Prop
  | [], r, S => D.nx r S
  | d :: ds, r, S => match bindT T d r with
    | none => False
    | some r' => mb { D with nx := fun r S => forRun T mb D ds r S, ct := fun r S => forRun T mb D ds r S, bk := D.nx } r' S
theorem forRun_mono {T : Tgt} {mb : WS} (hb : MonS mb) {D D' : DE} (l : DE.le D D') : ∀ {ds : List RB.D} {r : Rho} {S : Store}, forRun T mb D ds r S → forRun T mb D' ds r S
  | [], _, _, h => l.nx _ _ h
  | d :: ds, r, S, h => by
    unfold forRun at h ⊢
    split at h
    · exact h.elim
    · exact hb { D with nx := fun r S => forRun T mb D ds r S, ct := fun r S => forRun T mb D ds r S, bk := D.nx } _ _ _ ⟨fun r S q => forRun_mono hb l q, l.rt, l.nx, fun r S q => forRun_mono hb l q, l.xc⟩ h
def wFor (mi : WA) (T : Tgt) (mb : WS) : WS := fun D r S => mi r S (fun ds S1 => forRun T mb D ds r S1) (D.xc r)
theorem rs_for {tg iter : Expr} {body : List Stmt} {mi : WA} {T : Tgt} {mb : WS} (hK : X.K = G.K) (hp : PassesOwn (model X.prog X.w) X.A X.env X.xe) (hc : X.calm = true) (hi : RI G X W tg iter mi) (hg : PG X tg (gT X.K T)) (hb : RSs G X W body mb)
    (hs : ∀ x, foldedSetIterable iter X.env x = pure x := by intro _; rfl) : RS G X W (.For tg iter body [] pos) (wFor mi T mb) := by
  refine ⟨PS.imp (ps_for hp hc hi.pi hg hb.ps hs) fun D σ H ⟨w, S, ρ, ok, en, q⟩ => ?_, fun D D' r S l q => hi.mono _ _ _ _ _ _ (fun ds S1 q => forRun_mono hb.mono l q) (l.xc r) q⟩
  refine ⟨w, S, ρ, ok, en, hi.mono ρ S _ _ _ _ (fun ds S1 q1 J w1 H1 x1 k1 it => ?_) (fun y S' q => q.at_ en) q⟩
  have q1 : forRun T mb (lowE G w1 H1 W D) ds ρ S1 := forRun_mono hb.mono (lowE.ext x1) q1
  refine for_it it (fun i τ Hc => ∃ w2 S2 r, Ext w1 H1 w2 Hc ∧ Wok G w2 S2 Hc ∧ EnvOk G w2 τ r ∧ forRun T mb (lowE G w1 H1 W D) (ds.drop i) r S2) ?_ ?_ ?_ ?_
  · exact ⟨w1, S1, ρ, Ext.refl _ _, k1, en.mono x1, by simpa using q1⟩
  · rintro i τ Hc _ ⟨w2, S2, r, x2, k2, _⟩
    exact x2.I.trans k2.sub
  · rintro i x τ Hc Hd hi' ⟨w2, S2, r, x2, k2, en2, run⟩ ⟨d, hd, y⟩
    have hds : ds.drop i = d :: ds.drop (i + 1) := by
      rw [List.drop_eq_getElem_cons hi']
      congr 1
      rw [List.getElem?_eq_getElem hi'] at hd
      exact Option.some.inj hd
    rw [hds] at run
    unfold forRun at run
    have big : ∃ w3, Ext w1 H1 w3 Hd ∧ Wok G w3 S2 Hd ∧ EnvOk G w3 τ r ∧ RepD G w3 x d := by
      rcases y with ⟨e, y⟩ | ⟨Tn, xs, ps, e1, e2, e3, e4, rp⟩
      · subst e
        exact ⟨w2, x2, k2, en2, y w2 x2.I⟩
      · subst e1; subst e2; subst e4
        obtain ⟨k3, x3⟩ := k2.alloc (o := .tup xs) e3
        exact ⟨_, x2.trans x3, k3, en2.mono x3, rep_tup.mpr ⟨Tn, xs, rfl, SqT.of upd_same, rp.mono (x2.I.trans x3.I)⟩⟩
    obtain ⟨w3, x3, k3, en3, rx⟩ := big
    split at run
    · exact run.elim
    · rename_i r' hb'
      refine gT_ok hK.symm k3 rx en3 hb' fun σ2 en4 _ => ⟨w3, S2, r', k3, en4, hb.mono _ _ _ _ ?_ run⟩
      exact ⟨fun r S q τ w4 H4 x4 k4 en5 => ⟨w4, S, r, x3.trans x4, k4, en5, q⟩, fun d S q => q.ext x3, fun r S q => Sn.ext x3 q, fun r S q τ w4 H4 x4 k4 en5 => ⟨w4, S, r, x3.trans x4, k4, en5, q⟩, fun r y S q => q.ext x3⟩
  · rintro τ Hc ⟨w2, S2, r, x2, k2, en2, run⟩
    rw [List.drop_length] at run
    exact run τ w2 Hc x2 k2 en2
/-! ### while -/
def wWhile (t : WT) (mb : WS) : WS := fun D r S => ∃ N : Nat → Rho → Store → Prop, (∃ m, N m r S) ∧ ∀ m r S, N m r S → t r S (fun b S1 => if b = true then mb { D with nx := fun r' S' => ∃ m', m' < m ∧ N m' r' S', ct := fun r' S' => ∃ m', m' < m ∧ N m' r' S', bk := D.nx } r S1 else D.nx r S1) (D.xc r)
theorem rs_while {t : WT} {mb : WS} {body : List Stmt} (hp : PassesOwn (model X.prog X.w) X.A X.env X.xe) (hc : RT G X W c t) (hb : RSs G X W body mb) : RS G X W (.While c body [] pos) (wWhile t mb) := by
  refine ⟨PS.imp (ps_while hp hc.pe hb.ps) fun D σ H ⟨w, S, ρ, ok, en, N, ⟨m0, n0⟩, step⟩ => ?_, fun D D' r S l ⟨N, h0, step⟩ => ⟨N, h0, fun m r S h => hc.mono _ _ _ _ _ _ (fun b S1 q => ?_) (l.xc r) (step m r S h)⟩⟩
  · refine ⟨fun m τ Hc => ∃ w2 S2 r, Ext w H w2 Hc ∧ Wok G w2 S2 Hc ∧ EnvOk G w2 τ r ∧ N m r S2, ⟨m0, w, S, ρ, Ext.refl _ _, ok, en, n0⟩, ?_⟩
    rintro m τ Hc ⟨w2, S2, r, x2, k2, en2, n2⟩
    have st := hc.mono r S2 _ _ _ _ (fun b S1 q => q) (fun y S' q => Sx.ext x2 q) (step m r S2 n2)
    refine tMt.low hc.mono k2 en2 st fun b S' w' H' x k q => ?_
    cases b with
    | true =>
      refine iteT ⟨fun τ' H'' => ∃ m', m' < m ∧ ∃ w2 S2 r, Ext w H w2 H'' ∧ Wok G w2 S2 H'' ∧ EnvOk G w2 τ' r ∧ N m' r S2, fun τ' H'' h => h, w', S', r, k, en2.mono x, hb.mono _ _ _ _ ?_ (by simpa using q)⟩
      have xx := x2.trans x
      exact ⟨fun r S ⟨m', hm, n⟩ τ w4 H4 x4 k4 en5 => ⟨m', hm, w4, S, r, xx.trans x4, k4, en5, n⟩, fun d S q => Qv.ext xx q, fun r S q => Sn.ext xx q, fun r S ⟨m', hm, n⟩ τ w4 H4 x4 k4 en5 => ⟨m', hm, w4, S, r, xx.trans x4, k4, en5, n⟩, fun r y S q => Sx.ext xx q⟩
    | false => exact iteF ((show (lowE G w H W D).nx r S' by simpa using q) τ w' H' (x2.trans x) k (en2.mono x))
  · cases b with
    | true => exact iteT (hb.mono { D with nx := fun r' S' => ∃ m', m' < m ∧ N m' r' S', ct := fun r' S' => ∃ m', m' < m ∧ N m' r' S', bk := D.nx } _ _ _ ⟨fun _ _ q => q, l.rt, l.nx, fun _ _ q => q, l.xc⟩ (by simpa using q))
    | false => exact iteF (l.nx _ _ (by simpa using q))
end
end RB
/-! The lifted layer: defs and their calls. -/
namespace RB
open PySem PySem.Spec PyProof.Rows L2

/-- a def's promise over data -/
abbrev DSp := List D → Store → DK → EK → Prop
def DMon (sp : DSp) : Prop := ∀ ds S Q Q' E E', (∀ d S, Q d S → Q' d S) → (∀ x S, E x S → E' x S) → sp ds S Q E → sp ds S Q' E'
def spV (G : Glob) (sp : DSp) : Sp := fun vs H Q E => ∃ w S ds, Wok G w S H ∧ RepDs G w vs ds ∧ sp ds S (Qv G w H Q) (Qx G w H E)
/-- the def at f keeps the promise sp, by at most level k, where no repr runs -/
structure FnG (G : Glob) (P : Program) (w : World) (mg : Str → Option Value) (base : Heap) (k : Nat) (f : Addr) (fd : FuncData) (ps : List Str) (sp : DSp) : Prop where
  mono : DMon sp
  len : ∀ ds S Q E, sp ds S Q E → ds.length = ps.length
  run : ∀ (A : Around) (outer : List Env) (s : Shared) (H : Hp) (args : Args) (us : List Value) (vs : List V) (Q : VK) (E : XK), Room k A → A.guards = some [] → Env0 P w G.K mg base A outer s H → BindsTo s fd args (ps.zip us) → Vals vs us → spV G sp vs H Q E →
    codeAny (model P w) A (.call (.ref f) args) (CR (L2.CX P w) outer P w H s Q E) s
theorem FnG.up {G : Glob} {P : Program} {w : World} {mg : Str → Option Value} {base : Heap} {j k : Nat} {f : Addr} {fd : FuncData} {ps : List Str} {sp : DSp} (F : FnG G P w mg base j f fd ps sp) (h : j ≤ k) : FnG G P w mg base k f fd ps sp :=
  ⟨F.mono, F.len, fun A outer s H args us vs Q E hr => F.run A outer s H args us vs Q E (hr.mono h)⟩
theorem FnG.imp {G : Glob} {P : Program} {w : World} {mg : Str → Option Value} {base : Heap} {k : Nat} {f : Addr} {fd : FuncData} {ps : List Str} {sp sp' : DSp} (F : FnG G P w mg base k f fd ps sp) (m : DMon sp') (h : ∀ ds S Q E, sp' ds S Q E → sp ds S Q E) : FnG G P w mg base k f fd ps sp' :=
  ⟨m, fun ds S Q E q => F.len ds S Q E (h _ _ _ _ q), fun A outer s H args us vs Q E hr hg e0 hb hv ⟨w, S, ds, k, r, q⟩ => F.run A outer s H args us vs Q E hr hg e0 hb hv ⟨w, S, ds, k, r, h _ _ _ _ q⟩⟩
theorem RepDs.length {G : Glob} {w : Wd} : ∀ {vs : List V} {ds : List D}, RepDs G w vs ds → vs.length = ds.length
  | [], [], _ => rfl
  | _ :: _, _ :: _, ⟨_, t⟩ => by simp [RepDs.length t]
  | [], _ :: _, h => h.elim
  | _ :: _, [], h => h.elim
theorem RepDs.append {G : Glob} {w : Wd} : ∀ {vs us : List V} {ds es : List D}, RepDs G w vs ds → RepDs G w us es → RepDs G w (vs ++ us) (ds ++ es)
  | [], _, [], _, _, t => t
  | _ :: _, _, _ :: _, _, ⟨h, r⟩, t => ⟨h, RepDs.append r t⟩
  | [], _, _ :: _, _, h, _ => h.elim
  | _ :: _, _, [], _, h, _ => h.elim
theorem RepDs.get {G : Glob} {w : Wd} : ∀ {vs : List V} {ds : List D} {i : Nat} {d : D}, RepDs G w vs ds → ds[i]? = some d → ∃ v, vs[i]? = some v ∧ RepD G w v d
  | [], [], _, _, _, e => by simp at e
  | v :: vs, d' :: ds, 0, _, ⟨h, _⟩, e => by simp at e; subst e; exact ⟨v, rfl, h⟩
  | v :: vs, d' :: ds, i + 1, _, ⟨_, t⟩, e => by simpa using RepDs.get t (by simpa using e)
  | [], _ :: _, _, _, h, _ => h.elim
  | _ :: _, [], _, _, h, _ => h.elim

/-! ### a def's body -/
def startR (N : List Str) (ds : List D) : Rho := ds.map some ++ List.replicate (N.length - ds.length) none
def cutD (n : Nat) (d : D) (S : Store) : Store := match d with
  | .p _ => S.take n
  | .cell m => if m < n then S.take n else S
  | .fn => S.take n
def endsF (n : Nat) (Q : DK) (E : EK) : DE := ⟨fun _ S => Q (.p .non) (S.take n), fun d S => Q d (cutD n d S), fun _ _ => False, fun _ _ => False, fun _ x S => E x (S.take n)⟩
theorem start_ok {G : Glob} {w : Wd} {N : List Str} {vs : List V} {ds : List D} (r : RepDs G w vs ds) : EnvOk G w (L2.start N vs) (startR N ds) := by
  have l := r.length
  refine ⟨by simp [L2.start, startR, l], fun i d h => ?_⟩
  unfold startR at h
  by_cases hi : i < ds.length
  · rw [List.getElem?_append_left (by simpa using hi), List.getElem?_map] at h
    cases e : ds[i]? with
    | none => rw [e] at h; cases h
    | some d' =>
      rw [e] at h
      cases h
      obtain ⟨v, h1, h2⟩ := r.get e
      refine ⟨v, ?_, h2⟩
      unfold L2.start
      rw [List.getElem?_append_left (by rw [List.length_map, l]; exact hi), List.getElem?_map, h1]
      rfl
  · rw [List.getElem?_append_right (by simpa using hi), List.getElem?_replicate] at h
    split at h <;> cases h
theorem Wok.cut {G : Glob} {w w' : Wd} {S S' : Store} {H H' : Hp} (k : Wok G w S H) (x : Ext w H w' H') (k' : Wok G w' S' H') : Wok G ⟨w'.I, w.as, w.ts⟩ (S'.take S.length) H' ∧ Ext w H ⟨w'.I, w.as, w.ts⟩ H' := by
  obtain ⟨t, ht⟩ := x.as
  have l := k.len
  have l' := k'.len
  rw [ht, List.length_append] at l'
  refine ⟨⟨k'.sub, ?_, k.nd, ⟨x.ts.symm.trans k'.tb.ts, fun p hp => ⟨(k'.tb.at_ p hp).1, (k'.tb.at_ p hp).2.1, fun z => (k'.tb.at_ p hp).2.2 (by rw [ht]; exact List.mem_append_left _ z)⟩, k'.tb.un.1, k.tb.un.2⟩, fun n c a h1 h2 => ?_⟩, ⟨x.I, ⟨[], by simp⟩, rfl, x.frame, fun b o h n => ⟨n, (x.fresh b o h n).2⟩, x.there⟩⟩
  · show w.as.length = _
    rw [List.length_take]
    omega
  · have h2 : w.as[n]? = some a := h2
    have hn : n < w.as.length := (List.getElem?_eq_some_iff.mp h2).1
    rw [List.getElem?_take_of_lt (by omega)] at h1
    exact k'.cells n c a h1 (by rw [ht, List.getElem?_append_left hn]; exact h2)
theorem cut_ret {G : Glob} {w : Wd} {S : Store} {H : Hp} {Q : VK} (k : Wok G w S H) {d : D} {S' : Store} (q : Qv G w H Q d (cutD S.length d S')) : Qv G w H Q d S' := fun v w' H' x k' r => by
  obtain ⟨k2, x2⟩ := k.cut x k'
  cases d with
  | p d => exact q v _ H' x2 k2 r
  | fn => exact q v _ H' x2 k2 r
  | cell m =>
    simp only [cutD] at q
    split at q
    · rename_i hm
      obtain ⟨a, e, z⟩ := r
      refine q v _ H' x2 k2 ⟨a, e, ?_⟩
      obtain ⟨t, ht⟩ := x.as
      rw [ht, List.getElem?_append_left (by rw [k.len]; exact hm)] at z
      exact z
    · exact q v w' H' x k' r
theorem cut_exc {G : Glob} {w : Wd} {S : Store} {H : Hp} {E : XK} (k : Wok G w S H) {y : Exc} {S' : Store} (q : Qx G w H E y (S'.take S.length)) : Qx G w H E y S' := fun c d w' H' x k' r => by
  obtain ⟨k2, x2⟩ := k.cut x k'
  exact q c d _ H' x2 k2 r

/-- the context in which a body runs -/
structure CxG (G : Glob) (X : Cx) (W : WX) (n : Nat) : Prop where
  hK : X.K = G.K
  tk : Takes X W
  rm : Room n X.A
  gd : X.A.guards = some []
  calm : X.calm = true
theorem CxG.hu {G : Glob} {X : Cx} {W : WX} {n : Nat} (C : CxG G X W n) : X.A.units + 64 < cLine := C.rm.units
theorem CxG.h1 {G : Glob} {X : Cx} {W : WX} {n : Nat} (C : CxG G X W n) : X.A.units + 1 < cLine := hu_of C.rm
theorem CxG.blk {G : Glob} {X : Cx} {W : WX} {n : Nat} (C : CxG G X W n) (s : Shared) (H : Hp) (scope : Scope) (cenv : Env) (fp : List Addr) : CxG G (X.blk s H scope cenv fp) WF n := ⟨C.hK, takes0, C.rm, C.gd, C.calm⟩
section
variable {G : Glob} {P : Program} {w : World} {mg : Str → Option Value} {base : Heap} {x qual : Str} {params : Arguments} {body : List Stmt} {scope : Scope} {dvs : List V} {kws : List (Str × V)} {f : Addr} {fd : FuncData}
/-- the rule of a def -/
theorem fn_gC {N ps : List Str} {k : Nat} {sp : DSp} {ws : WS} (F : FunD G.K x qual params body scope dvs kws f fd) (S : FnScope N ps scope) (mono : DMon sp) (len : ∀ ds S Q E, sp ds S Q E → ds.length = ps.length)
    (hbody : ∀ (cdv : Value) (A : Around) (outer : List Env) (s : Shared) (H : Hp) (E : XK), cdv = fd.code → CxG G (cxOf (L2.CX P w) P w G.K mg base N qual scope f cdv A outer s H E) (fun cls d _ H' => E cls d H') k →
      RSs G (cxOf (L2.CX P w) P w G.K mg base N qual scope f cdv A outer s H E) (fun cls d _ H' => E cls d H') body ws)
    (pur : ∀ ds S Q E, sp ds S Q E → ws (endsF S.length Q E) (startR N ds) S) : FnG G P w mg base (k + 1) f fd ps sp := by
  obtain ⟨oc, od, dV, kV, doc, pm, an, cdv, ct, osl, rfl, lk, hcd, _, _⟩ := F.ex
  refine ⟨mono, len, fun A outer s H args us vs Q E hr hg e0 hb r hsp => ?_⟩
  obtain ⟨wd, St, ds, ok, rd, hsp⟩ := hsp
  have hl : vs.length = ps.length := by rw [rd.length]; exact len _ _ _ _ hsp
  have stays : ∀ b o, base.get? b = some o → s.heap.get? b = some o := fun b o e => (e0.bs b o e).1
  have KX : G.K.In s.heap := e0.mod.kin.keeps stays
  have lim : s.heap.NoLimit := e0.mod.nolimit.keeps stays
  refine codeAny_call_function hr.depth (KX _ _ lk) rfl S.co S.gen rfl (PySem.W.codeRec_of KX hcd) (hb _ _ _ _ ?_)
  refine wpAny_newFunctionEnv_cells S.kind (fun y hy => ?_) fun env he s1 x => ?_
  · rcases S.par y.1 (List.of_mem_zip (show (y.1, y.2) ∈ ps.zip us from hy)).1 with q | q
    · exact .inl q
    · exact .inr ⟨q, PySem.W.cellsFrom_some _ _ _ (.inl q)⟩
  subst he
  refine ⟨lim.keeps x.toInCall.keep, codeAny_func ?_⟩
  have C : CxG G (cxOf (L2.CX P w) P w G.K mg base N qual scope f cdv A outer s H E) (fun cls d _ H' => E cls d H') k := ⟨rfl, takes_of rfl rfl rfl rfl, hr.deeper _, hg, rfl⟩
  have B := hbody cdv A outer s H E rfl C
  have I := inv_start (CX := L2.CX P w) (E := E) S hr.hd e0 hl r x
  have low : tMs G (fun cls d _ H' => E cls d H') ws { nx := fun _ H' => Q .non H', rt := Q } (L2.start N vs) H := by
    refine ⟨wd, St, startR N ds, ok, start_ok rd, B.mono (endsF St.length (Qv G wd H Q) (Qx G wd H E)) _ _ _ ⟨fun r S' q τ w' H' x k en => ?_, fun d S' q => cut_ret ok q, fun _ _ z => z.elim, fun _ _ z => z.elim, fun r y S' q τ c d w' H' x k en rx => ?_⟩ (pur _ _ _ _ hsp)⟩
    · obtain ⟨k2, x2⟩ := ok.cut x k
      exact q .non _ H' x2 k2 (rep_non.mpr rfl)
    · exact cut_exc ok q c d w' H' x k rx
  refine wpAny_mono (B.ps.run [] s1 (L2.start N vs) H _ I low) (fun fl s' hs => ?_) fun e s' hs => hs
  cases fl with
  | ret u =>
    obtain ⟨v, σ', H', J, rv, q⟩ := hs
    exact ⟨v, H', J.os, J.bare, J.base, J.hok, rv, q⟩
  | next =>
    obtain ⟨σ', H', J, q⟩ := hs
    exact ⟨V.non, H', J.os, J.bare, J.base, J.hok, rfl, q⟩
  | brk => exact hs.choose_spec.choose_spec.2.elim
  | cont => exact hs.choose_spec.choose_spec.2.elim
theorem fn_g {N ps : List Str} {k : Nat} {sp : DSp} {ws : WS} (F : FunD G.K x qual params body scope dvs kws f fd) (S : FnScope N ps scope) (mono : DMon sp) (len : ∀ ds S Q E, sp ds S Q E → ds.length = ps.length)
    (hbody : ∀ (cdv : Value) (A : Around) (outer : List Env) (s : Shared) (H : Hp) (E : XK), CxG G (cxOf (L2.CX P w) P w G.K mg base N qual scope f cdv A outer s H E) (fun cls d _ H' => E cls d H') k →
      RSs G (cxOf (L2.CX P w) P w G.K mg base N qual scope f cdv A outer s H E) (fun cls d _ H' => E cls d H') body ws)
    (pur : ∀ ds S Q E, sp ds S Q E → ws (endsF S.length Q E) (startR N ds) S) : FnG G P w mg base (k + 1) f fd ps sp := fn_gC F S mono len (fun cdv A outer s H E _ => hbody cdv A outer s H E) pur
end

/-! ### calls -/
section
variable {G : Glob} {X : Cx} {W : WX} {n k : Nat} {f C : Addr} {fd : FuncData} {ps ks : List Str} {sp : DSp} {dvs : List V} {ds : List Value} {dds : List D} {x : Str} {p pos : Pos} {e : Expr} {es : List Expr} {ma mk : WA}
theorem run_g (C : CxG G X W n) (F : FnG G X.prog X.w X.mg X.base k f fd ps sp) (hk : k ≤ n) {pins : List (Addr × Obj)} {σ : L2.St} {H : Hp} {s : Shared} {Q : VK} {args : Args} {us : List Value} {vs : List V} (I : Inv X pins σ H s) (hb : BindsTo s fd args (ps.zip us)) (r : Vals vs us)
    (h : spV G sp vs H Q fun c d H' => W c d σ H') : wpAny (model X.prog X.w) X.A (call (.ref f) args.pos args.kw) (EP X pins σ Q) X.xe s := by
  have e0 := I.env0
  rw [C.hK] at e0
  refine wpAny_call (codeAny_mono (F.run X.A X.stack s H args us vs Q _ (C.rm.mono hk) C.gd e0 hb r h) fun z s' hq => ?_)
  cases z with
  | error e => exact passAt C.tk σ pins H s e s' I hq
  | ok fl =>
    cases fl with
    | ret u => exact I.after hq
    | next => exact False.elim hq
    | brk => exact False.elim hq
    | cont => exact False.elim hq
def wCall (sp : DSp) (dds : List D) (ma : WA) : WE := fun r S Q E => ma r S (fun vs S1 => sp (vs ++ dds) S1 Q E) E
theorem mon_call (hs : DMon sp) (hm : MonA ma) : Mon (wCall sp dds ma) := fun r S Q Q' E E' hq he h => hm _ _ _ _ _ _ (fun vs S1 q => hs _ _ _ _ _ _ hq he q) he h
theorem re_call (C : CxG G X W n) (F : FnG G X.prog X.w X.mg X.base k f fd ps sp) (hk : k ≤ n) (hg : Gl X x) (hm : X.mg x = some (.ref f)) (kp : PySem.W.keepIn X.K (.ref f) = true) (hb : Binds X.K fd ps ds) (hd : Vals dvs ds) (hdd : ∀ w, RepDs G w dvs dds) (ha : RA G X W (e :: es) ma)
    (hdb : (x == ("__debug__" : Str)) = false := by decide) (he : starEach (e :: es) X.env = (false, eval e X.env) :: starEach es X.env := by rfl) (hpl : (backTo pos (starEach es X.env)).any (·.1) = false := by rfl) :
    RE G X W (.Call (.Name x p) (e :: es) [] pos) (wCall sp dds ma) := by
  refine ⟨⟨fun pins s σ H Q I ⟨w, S, ρ, ok, en, q⟩ => ?_⟩, mon_call F.mono ha.mono⟩
  refine wpAny_Call_Name_kw (ld_glob I hg hm ?_ hdb)
  have h1 : tMa G W ma σ H fun vs H1 => spV G sp (vs ++ dvs) H1 Q fun c d H' => W c d σ H' := by
    refine ⟨w, S, ρ, ok, en, ha.mono ρ S _ _ _ _ (fun xs S1 q vs w1 H1 x1 k1 r => ?_) (fun _ _ z => z) q⟩
    exact ⟨w1, S1, xs ++ dds, k1, r.append (hdd w1), F.mono _ _ _ _ _ _ (fun _ _ z => z.ext x1) (fun _ _ z => z.ext x1) q⟩
  refine PySem.W.callWith_K (h₀ := X.base) I.ok.mod.kin kp (thn (ha.pe.run pos pins s σ H _ I h1) fun us s1 ⟨vs, H1, I1, r, q⟩ => ⟨I1.kIn, ?_⟩) he hpl
  have r2 : Vals (vs ++ dvs) (us ++ ds) := r.append hd
  have hl : (us ++ ds).length = ps.length := by
    obtain ⟨w2, S2, es2, _, rd, q2⟩ := id q
    rw [← r2.length, rd.length]; exact F.len _ _ _ _ q2
  exact run_g (args := ⟨us, []⟩) C F hk I1 (hb s1 us I1.kIn hl) r2 q
theorem re_call0 (C : CxG G X W n) (F : FnG G X.prog X.w X.mg X.base k f fd ps sp) (hk : k ≤ n) (hg : Gl X x) (hm : X.mg x = some (.ref f)) (kp : PySem.W.keepIn X.K (.ref f) = true) (hb : Binds X.K fd ps ds) (hd : Vals dvs ds) (hdd : ∀ w, RepDs G w dvs dds)
    (hdb : (x == ("__debug__" : Str)) = false := by decide) : RE G X W (.Call (.Name x p) [] [] pos) (wCall sp dds wNil) := by
  refine ⟨⟨fun pins s σ H Q I ⟨w, S, ρ, ok, en, q⟩ => ?_⟩, mon_call F.mono (fun _ _ _ _ _ _ hq _ h => hq _ _ h)⟩
  refine wpAny_Call_Name_kw (ld_glob I hg hm ?_ hdb)
  refine PySem.W.callWith_K0 I.kIn kp ?_
  have q1 : spV G sp dvs H Q fun c d H' => W c d σ H' := ⟨w, S, dds, ok, hdd w, q⟩
  have hl : ([] ++ ds).length = ps.length := by
    obtain ⟨w2, S2, es2, _, rd, q2⟩ := id q1
    rw [List.nil_append, ← hd.length, rd.length]; exact F.len _ _ _ _ q2
  exact run_g (args := ⟨[], []⟩) C F hk I (hb s [] I.kIn hl) hd q1
/-! keywords -/
structure RK (G : Glob) (X : Cx) (W : WX) (kws : List Keyword) (m : WA) : Prop where
  pk : PK X kws (tMa G W m)
  mono : MonA m
theorem PK.imp {kws : List Keyword} {t u : TA} (h : PK X kws t) (i : ∀ σ H Q, u σ H Q → t σ H Q) : PK X kws u := ⟨fun pos pins s σ H Q I q => h.run pos pins s σ H Q I (i σ H Q q)⟩
theorem rk_nil : RK G X W [] wNil := ⟨PK.imp pk_nil fun σ H Q ⟨w, S, ρ, ok, en, q⟩ => q [] w H (Ext.refl w H) ok trivial, fun _ _ _ _ _ _ hq _ h => hq _ _ h⟩
theorem rk_cons {nm : Option Str} {kpos : Pos} {kws : List Keyword} {m : WE} {t : WA} (ha : RE G X W e m) (hr : RK G X W kws t) : RK G X W (⟨nm, e, kpos⟩ :: kws) (wCons m t) := by
  refine ⟨PK.imp (pk_cons ha.pe hr.pk) fun σ H Q ⟨w, S, ρ, ok, en, q⟩ => ?_, fun r S Q Q' E E' hq he h => ha.mono r S _ _ _ _ (fun d S1 q => hr.mono r S1 _ _ _ _ (fun ds S2 q2 => hq _ _ q2) he q) he h⟩
  refine tM.bind ha.mono ok en q (fun _ _ _ z => z) fun d1 S1 x w1 H1 x1 k1 r1 q1 => ?_
  exact ⟨w1, S1, ρ, k1, en.mono x1, hr.mono ρ S1 _ _ _ _ (fun ds S2 q2 ys w2 H2 x2 k2 r2 => q2 (x :: ys) w2 H2 (x1.trans x2) k2 ⟨r1.mono x2, r2⟩) (fun x S' q => q.ext x1) q1⟩
/-- f(k = v, ..) with all parameters by keywords, in some order -/
def wCallK (sp : DSp) (g : List D → List D) (mk : WA) : WE := fun r S Q E => mk r S (fun zs S1 => sp (g zs) S1 Q E) E
theorem re_callK0 {kws : List Keyword} {g : List Value → List Value} {gV : List V → List V} {gD : List D → List D} (C : CxG G X W n) (F : FnG G X.prog X.w X.mg X.base k f fd ps sp) (hk : k ≤ n) (hg : Gl X x) (hm : X.mg x = some (.ref f)) (kp : PySem.W.keepIn X.K (.ref f) = true)
    (hb : ∀ (s : Shared) (ws : List Value), X.K.In s.heap → ws.length = ks.length → BindsTo s fd ⟨[], ks.zip ws⟩ (ps.zip (g ws))) (hgl : ∀ zs : List D, (gD zs).length = ps.length → zs.length = ks.length) (hrel : ∀ {zs : List V} {ws : List Value}, Vals zs ws → Vals (gV zs) (g ws)) (hdd : ∀ w zs ds, RepDs G w zs ds → RepDs G w (gV zs) (gD ds)) (hkw : RK G X W kws mk)
    (hall : (backToKw pos (keywordEach kws X.env)).all (·.1.isSome) = true := by rfl) (hks : (backToKw pos (keywordEach kws X.env)).filterMap (·.1) = ks := by rfl) (hdb : (x == ("__debug__" : Str)) = false := by decide)
    (hpl : ((backTo pos (starEach [] X.env)).any (·.1) || (backToKw pos (keywordEach kws X.env)).any (·.1.isNone)) = false := by rfl) :
    RE G X W (.Call (.Name x p) [] kws pos) (wCallK sp gD mk) := by
  refine ⟨⟨fun pins s σ H Q I ⟨w, S, ρ, ok, en, q⟩ => ?_⟩, fun r S Q Q' E E' hq he h => hkw.mono _ _ _ _ _ _ (fun vs S1 q => F.mono _ _ _ _ _ _ hq he q) he h⟩
  refine wpAny_Call_Name_kw (ld_glob I hg hm ?_ hdb)
  have h1 : tMa G W mk σ H fun zs H1 => spV G sp (gV zs) H1 Q (fun c d H' => W c d σ H') ∧ zs.length = ks.length := by
    refine ⟨w, S, ρ, ok, en, hkw.mono ρ S _ _ _ _ (fun xs S1 q vs w1 H1 x1 k1 r => ⟨?_, ?_⟩) (fun _ _ z => z) q⟩
    · exact ⟨w1, S1, gD xs, k1, hdd w1 vs xs r, F.mono _ _ _ _ _ _ (fun _ _ z => z.ext x1) (fun _ _ z => z.ext x1) q⟩
    · rw [r.length]
      exact hgl xs (F.len _ _ _ _ q)
  refine PySem.W.callWith_KW0 (h₀ := X.base) I.ok.mod.kin kp hall ?_ hpl
  refine thn (hkw.pk.run pos pins s σ H _ I h1) fun ws s2 ⟨zs, H2, I2, rz, q2, l2⟩ => ⟨I2.kIn, ?_⟩
  rw [hks]
  exact run_g (args := ⟨[], ks.zip ws⟩) C F hk I2 (hb s2 ws I2.kIn (by rw [← rz.length]; exact l2)) (hrel rz) q2
end
end RB
/-! The lifted layer: a law's end. -/
namespace RB
open PySem PySem.Spec PyProof.Rows L2

theorem reps_ints {G : Glob} {I : Hp} : ∀ ns : List Int, Reps G I (ns.map V.int) (ns.map RB.P.int)
  | [] => Reps.nil
  | n :: ns => Reps.cons (by simp only [Rep]) (reps_ints ns)
theorem law_g {G : Glob} {P : Program} {w : World} {mg mb : Str → Option Value} {k : Nat} {fa a : Addr} {cs : List (Addr × Addr)} {fd : FuncData} {x : Str} {sp : DSp} {s1 : Shared} {vs : List Value} {ns : List Int}
    (KX : G.K.In s1.heap) (hns : s1.heap.Ns mainGlobals mg) (hb : s1.heap.Ns builtinsNs mb) (hbb : ∀ x : Str, x ≠ "__name__" → mb x = bootBuiltins x) (hlim : s1.heap.NoLimit) (hg : s1.gens = #[])
    (eT : cs.map (·.2) = G.tabs.map (·.1)) (e00 : G.I0 = fun _ => none) (e01 : G.as0 = []) (hT : ∀ p ∈ cs, s1.heap.get? p.2 = some { cls := .none, data := .fields #[] }) (nT : ∀ p ∈ cs, G.K.lookup p.2 = none) (C : ∀ p ∈ cs, PySem.W.CodeHd s1.heap p.1 p.2)
    (hbm : ∃ (bm : Addr) (ob : Obj), mg "__builtins__" = some (.ref bm) ∧ bm ≠ builtinsNs ∧ s1.heap.get? bm = some ob ∧ ob.cls = .type "module" ∧ ob.dict = some builtinsNs ∧ ob.data = .plain)
    (ha : s1.heap.get? a = some { cls := .type "list", data := .seq vs.toArray }) (hi : IntsAre vs ns) (hl : ns.length ≤ sizeLine) (hr : Room k callerA)
    (F : ∀ base : Heap, G.K.In base → base.Ns mainGlobals mg → (∀ p ∈ cs, LamX.TabB base mg p.1 p.2) → FnG G P w mg base k fa fd [x] sp) (hbind : ∀ (s : Shared) (u : Value), BindsTo s fd ⟨[u], []⟩ [(x, u)])
    (hsp : sp [.p (.scr (ns.map RB.P.int))] [] (fun d _ => d = .p (.bl true)) fun _ _ => False) :
    codeAny (model P w) callerA (.call (.ref fa) ⟨[.ref a], []⟩) (fun r s' => r = .ok (.ret (.bool true)) ∧ OldK s1.heap s'.heap ∧ s'.os = s1.os ∧ AllBare s'.gens) s1 := by
  have rv := vals_ints hi
  have lenV := hi.length
  have isT : ∀ b : Addr, b ∈ cs.map (·.2) → s1.heap.get? b = some { cls := .none, data := .fields #[] } := fun b hb => by
    obtain ⟨p, hp, e⟩ := List.mem_map.mp hb
    rw [← e]
    exact hT p hp
  have memT : ∀ p ∈ cs, p.2 ∈ cs.map (·.2) := fun p hp => List.mem_map.mpr ⟨p, hp, rfl⟩
  have aT : a ∉ cs.map (·.2) := fun z => by
    have q := isT a z
    rw [ha] at q
    have z' : Data.seq vs.toArray _ = Data.fields #[] := congrArg Obj.data (Option.some.inj q)
    cases z'
  have core : ∀ I H : Hp, (∀ b, b ∈ cs.map (·.2) → I b = none ∧ H b = some (.tbl #[])) → (∀ b, b ∉ cs.map (·.2) → H b = I b) → (∀ b u, I b = some u → b = a ∧ ∃ o xs, u = .frz o (.lst xs)) → SqL G.K I a (ns.map V.int) → HOk P w H s1.heap → (H a ≠ none → G.K.lookup a = none) →
      codeAny (model P w) callerA (.call (.ref fa) ⟨[.ref a], []⟩) (fun r s' => r = .ok (.ret (.bool true)) ∧ OldK s1.heap s'.heap ∧ s'.os = s1.os ∧ AllBare s'.gens) s1 := by
    intro I H hI hH hO hS hok hK
    have sub : Same I H := fun b u e => by
      rw [hH b (fun z => by rw [(hI b z).1] at e; cases e)]
      exact e
    have still : ∀ {b : Addr} {o : Obj}, s1.heap.get? b = some o → (∀ its n, o.data ≠ .seq its n) → o.data ≠ .fields #[] → (hidT s1.heap H).get? b = some o := fun {b o} e nd nf => hidT_get e (by
      by_cases z : b ∈ cs.map (·.2)
      · rw [isT b z] at e
        cases e
        exact absurd rfl nf
      · rw [hH b z]
        cases q : I b with
        | none => rfl
        | some u =>
          obtain ⟨rfl, _⟩ := hO b u q
          rw [ha] at e
          cases e
          exact absurd rfl (nd _ _))
    have nsK : ∀ {b : Addr} {m : Str → Option Value}, s1.heap.Ns b m → (hidT s1.heap H).Ns b m := fun {b m} ⟨o, es, ep, e, d, r⟩ => ⟨o, es, ep, still e (fun its n z => by rw [d] at z; cases z) (fun z => by rw [d] at z; cases z), d, r⟩
    have kin : G.K.In (hidT s1.heap H) := fun b o e => hidT_get (KX b o e) (by
      by_cases z : b ∈ cs.map (·.2)
      · obtain ⟨p, hp, ep⟩ := List.mem_map.mp z
        rw [← ep, nT p hp] at e
        cases e
      · rw [hH b z]
        cases q : I b with
        | none => rfl
        | some u =>
          obtain ⟨rfl, _⟩ := hO b u q
          rw [hK (by rw [hH b z, q]; simp)] at e
          cases e)
    obtain ⟨mc, l1, l2⟩ := hlim
    have md : Mod G.K mg (hidT s1.heap H) := ⟨kin, nsK hns, ⟨mb, nsK hb, hbb⟩, ⟨mc, nsK l1, l2⟩⟩
    have TB : ∀ p ∈ cs, LamX.TabB (hidT s1.heap H) mg p.1 p.2 := fun p hp => by
      have hTp := hT p hp
      refine ⟨?_, ?_, fun z => ?_⟩
      · obtain ⟨o, us, file, tf, flags, tg, inF, text, tt, e1, r1, r2, r3, r4, r5, r6, r7, r8, hne⟩ := C p hp
        refine ⟨o, us, file, tf, flags, tg, inF, text, tt, still e1 (fun vs n z => ?_) (fun z => ?_), r1, r2, r3, r4, r5, r6, r7, r8, hne⟩
        · rw [r2] at z
          cases z
        · rw [r2] at z
          cases z
          simp at r3
      · obtain ⟨bm, ob, b1, b2, b3, b4, b5, b6⟩ := hbm
        have nG : bm ≠ mainGlobals := fun q => by
          obtain ⟨o, es, ep, e, hd, _⟩ := hns
          rw [q, e] at b3
          cases b3
          rw [hd] at b6
          cases b6
        have nP : bm ≠ p.2 := fun q => by
          rw [q, hTp] at b3
          cases b3
          cases b6
        refine ⟨bm, ob, b1, b2, nG, nP, still b3 (fun vs n z => ?_) (fun z => ?_), b4, b5, b6⟩
        · rw [b6] at z
          cases z
        · rw [b6] at z
          cases z
      · obtain ⟨o, es, ep, e, hd, _⟩ := hns
        rw [z, hTp] at e
        cases e
        cases hd
    have e0 : Env0 P w G.K mg (hidT s1.heap H) callerA [] s1 H := ⟨rfl, md, fun b o e => of_hidT e, Nat.le_of_eq (hidT_size _ _), trivial, fun b z => (nomatch (show b ∈ ([] : List Addr) from z)), hok, .of_eq hg⟩
    have ok : Wok G ⟨I, [], G.tabs.map (·.1)⟩ [] H := ⟨sub, rfl, List.nodup_nil, ⟨rfl, fun p hp => by
      have m : p.1 ∈ cs.map (·.2) := by rw [eT]; exact List.mem_map.mpr ⟨p, hp, rfl⟩
      refine ⟨⟨#[], (hI _ m).2, trivial, fun pos cv hc => ?_⟩, (hI _ m).1, by simp⟩
      have z : codeAmong pos [] = some cv := hc
      simp [codeAmong] at z, by rw [e00]; exact fun b o z => (nomatch z), ⟨[], by rw [e01]; rfl⟩⟩, fun n c a h _ => by simp at h⟩
    have spv : spV G sp [.ref a] H (fun v H' => v = .bl true) (fun _ _ _ => False) := by
      refine ⟨⟨I, [], G.tabs.map (·.1)⟩, [], [.p (.scr (ns.map RB.P.int))], ok, ⟨rep_scr.mpr ⟨a, _, rfl, hS, reps_ints ns⟩, trivial⟩, (F _ kin (nsK hns) TB).mono _ _ _ _ _ _ (fun d S e v w' H' x k r => ?_) (fun _ _ z => z.elim) hsp⟩
      subst e
      exact rep_bl.mp r
    refine codeAny_mono ((F _ kin (nsK hns) TB).run callerA [] s1 H ⟨[.ref a], []⟩ [.ref a] [.ref a] _ _ hr rfl e0 (hbind s1 (.ref a)) (.cons rfl .nil) spv) fun r s' h => ?_
    cases r with
    | error e =>
      obtain ⟨_, _, _, _, _, _, _, _, _, _, _, _, z⟩ := h
      exact z.elim
    | ok fl =>
      cases fl with
      | next => exact False.elim h
      | brk => exact False.elim h
      | cont => exact False.elim h
      | ret u =>
        obtain ⟨v, H', os, bare, un, hok', r', q⟩ := h
        have q' : v = .bl true := q
        subst q'
        have eu : u = Value.bool true := r'
        subst eu
        have key : ∀ b o, b ∉ cs.map (·.2) → s1.heap.get? b = some o → s'.heap.get? b = some o := fun b o nb e => by
          cases q : H b with
          | none => exact un.keep b o e q (fun z => nomatch (show b ∈ ([] : List Addr) from z)) (by simp)
          | some u =>
            obtain ⟨_, ob, xs, rfl⟩ := hO b u (by rw [← hH b nb]; exact q)
            have z2 := un.frzs b ob _ q
            obtain ⟨e1, _⟩ := hok b _ q
            obtain ⟨e2, _⟩ := hok' b _ z2
            rw [e] at e1; cases e1
            exact e2
        have grown : ∀ p ∈ cs, ∃ more : Array Value, s'.heap.get? p.2 = some { cls := .none, data := .fields more } := fun p hp => by
          obtain ⟨more, z⟩ := un.tbls p.2 #[] (hI p.2 (memT p hp)).2
          exact ⟨_, hok' p.2 _ z⟩
        refine ⟨rfl, ⟨fun b o e => ?_, fun b o e => ?_⟩, os, bare⟩
        · by_cases hb : b ∈ cs.map (·.2)
          · obtain ⟨p, hp, ep⟩ := List.mem_map.mp hb
            obtain ⟨more, hm⟩ := grown p hp
            rw [← ep] at e ⊢
            rw [hT p hp] at e
            cases e
            exact .inr (.inl ⟨((C p hp).tab (hT p hp)).isCodeTable, rfl, #[], more, rfl, by rw [Array.empty_append]; exact hm⟩)
          · exact .inl (key b o hb e)
        · by_cases hb : b ∈ cs.map (·.2)
          · obtain ⟨p, hp, ep⟩ := List.mem_map.mp hb
            obtain ⟨more, hm⟩ := grown p hp
            rw [← ep]
            exact ⟨_, hm⟩
          · exact ⟨o, key b o hb e⟩
  have tabOk : ∀ {H : Hp} {b : Addr}, b ∈ cs.map (·.2) → ObjOk P w H s1.heap b (.tbl #[]) := fun {H b} hb => isT b hb
  cases hk : G.K.lookup a with
  | some o =>
    have e := KX a o hk
    rw [ha] at e
    cases e
    refine core (fun _ => none) (fun b => if b ∈ cs.map (·.2) then some (.tbl #[]) else none) (fun b hb => ⟨rfl, if_pos hb⟩) (fun b hb => if_neg hb) (fun b u z => by cases z) (.inr ⟨_, vs.toArray, _, hk, rfl, rfl, rfl, by rw [List.size_toArray, lenV]; exact hl, by simpa using rv⟩) (fun b u z => ?_) fun z => absurd (if_neg aT) z
    by_cases hb : b ∈ cs.map (·.2)
    · have z' := (if_pos hb).symm.trans z
      cases z'
      exact tabOk hb
    · have z' := (if_neg hb).symm.trans z
      cases z'
  | none =>
    refine core (fun b => if b = a then some (.frz { cls := .type "list", data := .seq vs.toArray } (.lst (ns.map V.int))) else none) (fun b => if b ∈ cs.map (·.2) then some (.tbl #[]) else if b = a then some (.frz { cls := .type "list", data := .seq vs.toArray } (.lst (ns.map V.int))) else none)
      (fun b hb => ⟨if_neg (fun z => aT (by rw [← z]; exact hb)), if_pos hb⟩) (fun b hb => if_neg hb) (fun b u z => ?_) (.inl (.inr ⟨{ cls := .type "list", data := .seq vs.toArray }, if_pos rfl⟩)) (fun b u z => ?_) fun _ => hk
    · by_cases e : b = a
      · have z' := (if_pos e).symm.trans z
        cases z'
        exact ⟨e, _, _, rfl⟩
      · have z' := (if_neg e).symm.trans z
        cases z'
    · by_cases hb : b ∈ cs.map (·.2)
      · have z' := (if_pos hb).symm.trans z
        cases z'
        exact tabOk hb
      · have z1 := (if_neg hb).symm.trans z
        by_cases e : b = a
        · have z' := (if_pos e).symm.trans z1
          cases z'
          rw [e]
          exact ⟨ha, by rw [List.length_map]; exact hl, vs, _, rv, ha⟩
        · have z' := (if_neg e).symm.trans z1
          cases z'
theorem walk_g {l : PySem.W.OpenLaw} {n k : Nat} {q : Program} {loose : List Str} {XP : (Str → Option Value) → Heap → Prop} {YP : World → Heap → Prop} {d : DefRec} {x : Str}
    (hn : l.most = some n) (hn2 : n ≤ sizeLine) (hdf : d.params.defaults = []) (hr : Room k callerA)
    (F : ∀ (w : World) (mg : Str → Option Value) (fa : Addr) (h : Heap), YP w h → h.Ns mainGlobals mg → mg d.name = some (.ref fa) →
      ∃ (G : Glob) (fd : FuncData) (sp : DSp) (cs : List (Addr × Addr)), G.K.In h ∧ cs.map (·.2) = G.tabs.map (·.1) ∧ G.I0 = (fun _ => none) ∧ G.as0 = [] ∧ (∀ p ∈ cs, h.get? p.2 = some { cls := .none, data := .fields #[] }) ∧ (∀ p ∈ cs, G.K.lookup p.2 = none) ∧ (∀ p ∈ cs, PySem.W.CodeHd h p.1 p.2) ∧
        (∀ (s : Shared) (u : Value), BindsTo s fd ⟨[u], []⟩ [(x, u)]) ∧
        (∀ ns : List Int, ns.length ≤ n → sp [.p (.scr (ns.map RB.P.int))] [] (fun d _ => d = .p (.bl true)) fun _ _ => False) ∧
        ∀ base : Heap, G.K.In base → base.Ns mainGlobals mg → (∀ p ∈ cs, LamX.TabB base mg p.1 p.2) → FnG G l.prog w mg base k fa fd [x] sp) :
    PySem.W.WalkO q loose XP YP l.row.toRowW d [] (fun f vs => PySem.call f vs) := by
  refine Att.attach_call hn hdf fun w s0 s1 mg mb fa o pm cd doc a vs ns G Y ho hd hcd hmg hobj hints hlen hg => ?_
  obtain ⟨Gl, fd, sp, cs, KX, eT, e00, e01, hT, nT, C, hb, hsp, hF⟩ := F w mg fa _ Y G.T.g hmg
  exact law_g KX G.T.g G.T.b G.T.builtins G.T.nolimit hg eT e00 e01 hT nT C G.T.bmain hobj hints (Nat.le_trans hlen hn2) hr hF hb (hsp ns hlen)
end RB
/-! The lifted layer: things of the store changed. -/
namespace RB
open PySem PySem.Spec PyProof.Rows L2
section
variable {G : Glob} {X : Cx} {W : WX} {e a b c o i value : Expr} {pos pos' : Pos}

/-! ### d[k] = v -/
def dDPut (d dk dv : D) (S : Store) (K : Store → Prop) : Prop := match keyOf dk, d, dv with
  | some k, .cell n, .p v => match S[n]? with
    | some (.dK ks vs) => ks.length < sizeLine ∧ (if (ks.any fun k' => decide (k' = k)) = true then K (S.set n (.dK ks (kset ks vs k v))) else K (S.set n (.dK (ks ++ [k]) (vs ++ [v]))))
    | _ => False
  | _, _, _ => False
def wDPut (mo mi mv : WE) : WS := fun D r S => mv r S (fun dv S1 => mo r S1 (fun d S2 => mi r S2 (fun dk S3 => dDPut d dk dv S3 (fun S4 => D.nx r S4)) (D.xc r)) (D.xc r)) (D.xc r)
theorem rs_dput {mo mi mv : WE} (hu : X.A.units + 1 < cLine) (ho : RE G X W o mo) (hi : RE G X W i mi) (hv : RE G X W value mv) (hs : swapsWith value (some (.Subscript o i pos')) pos.line X.env = pure false := by rfl) :
    RS G X W (.Assign [.Subscript o i pos'] value pos) (wDPut mo mi mv) := by
  refine ⟨PS.imp (ps_dput hu ho.pe hi.pe hv.pe hs) fun D σ H ⟨w, S, ρ, ok, en, q⟩ => ?_, fun D D' r S l q => hv.mono _ _ _ _ _ _ (fun dv S1 q => ho.mono _ _ _ _ _ _ (fun d S2 q => hi.mono _ _ _ _ _ _ (fun dk S3 q => ?_) (l.xc r) q) (l.xc r) q) (l.xc r) q⟩
  · refine tM.low hv.mono ok en q fun dv S1 v w1 H1 x1 k1 r1 q1 => ?_
    refine tM.low ho.mono k1 (en.mono x1) (ho.mono _ _ _ _ _ _ (fun _ _ z => z) (fun y S' z => Sx.ext x1 z) q1) fun d S2 x w2 H2 x2 k2 r2 q2 => ?_
    have x12 := x1.trans x2
    refine tM.low hi.mono k2 (en.mono x12) (hi.mono _ _ _ _ _ _ (fun _ _ z => z) (fun y S' z => Sx.ext x12 z) q2) fun dk S3 y w3 H3 x3 k3 r3 q3 => ?_
    have x13 := x12.trans x3
    unfold dDPut at q3
    split at q3
    · rename_i k n p e1
      split at q3
      · rename_i ks vs hs
        obtain ⟨hl, q3⟩ := q3
        have ey := keyOf_ok r3 e1
        subst ey
        obtain ⟨a, rfl, hn⟩ := rep_cell.mp (r2.mono x3)
        obtain ⟨nI, kvs, z, h1, h2⟩ := k3.cells n _ a hs hn
        have rv : Rep G w3.I v p := (r1.mono x2).mono x3
        have lk : kvs.length = ks.length := by rw [← h1, List.length_map]
        refine ⟨a, _, rfl, DPut.k (k := k) z (by rw [lk]; exact hl), ?_⟩
        split at q3
        · rename_i hk
          have hp : putK kvs k v = kvs.map fun kv => if kv.1 = k then (kv.1, v) else kv := by
            unfold putK
            rw [if_pos]
            rw [← h1, List.any_map] at hk
            exact hk
          obtain ⟨i1, i2⟩ := kmap_ok (k := k) rv h2
          obtain ⟨k4, x4⟩ := k3.write (o := .dK (putK kvs k v)) (c' := .dK ks (kset ks vs k p)) hs hn nI ⟨nI, _, upd_same, by rw [hp, i1, h1], by rw [hp, ← h1]; exact i2⟩
          exact q3 σ w3 _ (x13.trans x4) k4 ((en.mono x13).mono x4)
        · rename_i hk
          have hp : putK kvs k v = kvs ++ [(k, v)] := putK_new (by rw [h1]; exact fun z => hk (List.any_eq_true.mpr ⟨k, z, decide_eq_true rfl⟩))
          obtain ⟨k4, x4⟩ := k3.write (o := .dK (putK kvs k v)) (c' := .dK (ks ++ [k]) (vs ++ [p])) hs hn nI ⟨nI, _, upd_same, by rw [hp, List.map_append, h1]; rfl, by rw [hp, List.map_append]; exact h2.append (Reps.cons rv Reps.nil)⟩
          exact q3 σ w3 _ (x13.trans x4) k4 ((en.mono x13).mono x4)
      · exact q3.elim
    · exact q3.elim
  · unfold dDPut at q ⊢
    split at q
    · split at q
      · refine ⟨q.1, ?_⟩
        have q := q.2
        split at q
        · rename_i hk; rw [if_pos hk]; exact l.nx _ _ q
        · rename_i hk; rw [if_neg hk]; exact l.nx _ _ q
      · exact q.elim
    · exact q.elim
end
end RB
/-! The lifted layer: names of built-ins, short words. -/
namespace RB
open PySem PySem.Spec PyProof.Rows L2
theorem bo_len : bootBuiltins (Str.ofString "len") = some (.builtin "len") := by decide +kernel
theorem bo_abs : bootBuiltins (Str.ofString "abs") = some (.builtin "abs") := by decide +kernel
theorem bo_min : bootBuiltins (Str.ofString "min") = some (.builtin "min") := by decide +kernel
theorem bo_max : bootBuiltins (Str.ofString "max") = some (.builtin "max") := by decide +kernel
theorem bo_all : bootBuiltins (Str.ofString "all") = some (.builtin "all") := by decide +kernel
theorem bo_any : bootBuiltins (Str.ofString "any") = some (.builtin "any") := by decide +kernel
theorem bo_sum : bootBuiltins (Str.ofString "sum") = some (.builtin "sum") := by decide +kernel
theorem bo_repr : bootBuiltins (Str.ofString "repr") = some (.builtin "repr") := by decide +kernel
theorem bo_isinstance : bootBuiltins (Str.ofString "isinstance") = some (.builtin "isinstance") := by decide +kernel
theorem bo_int : bootBuiltins (Str.ofString "int") = some (.type "int") := by decide +kernel
theorem bo_str : bootBuiltins (Str.ofString "str") = some (.type "str") := by decide +kernel
theorem bo_bool : bootBuiltins (Str.ofString "bool") = some (.type "bool") := by decide +kernel
theorem bo_list : bootBuiltins (Str.ofString "list") = some (.type "list") := by decide +kernel
theorem bo_tuple : bootBuiltins (Str.ofString "tuple") = some (.type "tuple") := by decide +kernel
theorem bo_dict : bootBuiltins (Str.ofString "dict") = some (.type "dict") := by decide +kernel
abbrev dSub := dInt (fun _ _ => True) fun i j => .int (i - j)
abbrev dFdiv := dInt CDivW fun i j => .int (i / j)
abbrev dMod := dInt (fun _ j => 0 < j) fun i j => .int (i % j)
abbrev dPow := dInt CPow fun i j => .int (i ^ j.toNat)
abbrev dLt := dInt (fun _ _ => True) fun i j => .bl (decide (i < j))
abbrev dLe := dInt (fun _ _ => True) fun i j => .bl (decide (i ≤ j))
abbrev dGt := dInt (fun _ _ => True) fun i j => .bl (decide (j < i))
abbrev dGe := dInt (fun _ _ => True) fun i j => .bl (decide (j ≤ i))
abbrev dAbs := dI1 fun i => .int (if i < 0 then -i else i)
abbrev dMin2 := dInt (fun _ _ => True) fun i j => .int (if j < i then j else i)
abbrev dMax2 := dInt (fun _ _ => True) fun i j => .int (if j > i then j else i)
abbrev dListOf := dQ1 fun ds S Q => Q (.p (.lst ds)) S
abbrev dListC := dQ1 fun ds S Q => Q (.cell S.length) (S ++ [.lst ds])
abbrev dTupleOf := dQ1 fun ds S Q => Q (.p (.tup ds)) S
abbrev dAll := dBls fun bs => bs.all id
abbrev dAny := dBls fun bs => bs.any id
abbrev wDictP := wDict (fun ks vs S Q => Q (.p (.dK ks vs)) S)
abbrev wDictC := wDict (fun ks vs S Q => Q (.cell S.length) (S ++ [.dK ks vs]))
section
variable {K : PySem.W.Frag} {x qual : Str} {params : Arguments} {body : List Stmt} {scope : Scope} {kws : List (Str × V)} {f : Addr} {fd : FuncData} {ps ks : List Str}
/-- a def without defaults, called by keywords alone -/
theorem kb_of (F : FunD K x qual params body scope [] kws f fd) {g : List Value → List Value}
    (h : ∀ (kV doc pm : Value) (an : Option Addr) (cdv ct : Value) (ws : List Value), ws.length = ks.length → bindArgs (PySem.W.fnOf x qual params body scope .none kV doc pm an cdv ct) ⟨[], ks.zip ws⟩ = pure (ps.zip (g ws))) (s : Shared) (ws : List Value) (hl : ws.length = ks.length) :
    BindsTo s fd ⟨[], ks.zip ws⟩ (ps.zip (g ws)) := by
  obtain ⟨oc, od, dV, kV, doc, pm, an, cdv, ct, osl, rfl, lk, hcd, hD, hK⟩ := F.ex
  rcases hD with ⟨_, rfl⟩ | ⟨e, _⟩
  · exact .of_eq (h kV doc pm an cdv ct ws hl)
  · exact absurd rfl e
end
section
variable {G : Glob} {X : Cx} {W : WX} {n k : Nat} {f : Addr} {fd : FuncData} {ps : List Str} {sp : DSp} {x : Str} {p pos : Pos} {e : Expr} {es : List Expr} {ma : WA}
theorem re_callN (C : CxG G X W n) (F : FnG G X.prog X.w X.mg X.base k f fd ps sp) (hk : k ≤ n) (hg : Gl X x) (hm : X.mg x = some (.ref f)) (kp : PySem.W.keepIn X.K (.ref f) = true) (hb : Binds X.K fd ps []) (ha : RA G X W (e :: es) ma)
    (hdb : (x == ("__debug__" : Str)) = false := by decide) (he : starEach (e :: es) X.env = (false, eval e X.env) :: starEach es X.env := by rfl) (hpl : (backTo pos (starEach es X.env)).any (·.1) = false := by rfl) :
    RE G X W (.Call (.Name x p) (e :: es) [] pos) (wCall sp [] ma) := re_call C F hk hg hm kp hb .nil (fun _ => trivial) ha hdb he hpl
theorem re_callN0 (C : CxG G X W n) (F : FnG G X.prog X.w X.mg X.base k f fd ps sp) (hk : k ≤ n) (hg : Gl X x) (hm : X.mg x = some (.ref f)) (kp : PySem.W.keepIn X.K (.ref f) = true) (hb : Binds X.K fd ps [])
    (hdb : (x == ("__debug__" : Str)) = false := by decide) : RE G X W (.Call (.Name x p) [] [] pos) (wCall sp [] wNil) := re_call0 C F hk hg hm kp hb .nil (fun _ => trivial) hdb
end
end RB
/-! The lifted layer: mirrors run step by step. -/
namespace RB
open PySem PySem.Spec PyProof.Rows L2
section
variable {r r' : Rho} {S : Store} {Q : DK} {E : EK} {nx bk ct : Rho → Store → Prop} {rt : DK} {xc : Rho → EK} {m m1 m2 m3 : WE} {t t1 t2 : WT} {ma : WA} {s1 s2 : WS} {i j : Nat} {d d1 d2 : RB.D} {QT : Bool → Store → Prop} {QA : List RB.D → Store → Prop}
theorem st_seq (h : s1 ⟨s2 ⟨nx, rt, bk, ct, xc⟩, rt, bk, ct, xc⟩ r S) : wSeq s1 s2 ⟨nx, rt, bk, ct, xc⟩ r S := h
theorem st_next (h : nx r S) : wNext ⟨nx, rt, bk, ct, xc⟩ r S := h
theorem st_set (h : m r S (fun d S1 => nx (r.set i (some d)) S1) (xc r)) : wSet i m ⟨nx, rt, bk, ct, xc⟩ r S := h
theorem st_ret (h : m r S rt (xc r)) : wRet m ⟨nx, rt, bk, ct, xc⟩ r S := h
theorem st_retN (h : rt (.p .non) S) : wRetN ⟨nx, rt, bk, ct, xc⟩ r S := h
theorem st_drop (h : m r S (fun _ S1 => nx r S1) (xc r)) : wDrop m ⟨nx, rt, bk, ct, xc⟩ r S := h
theorem st_ifS (h : t r S (fun b S1 => if b = true then s1 ⟨nx, rt, bk, ct, xc⟩ r S1 else s2 ⟨nx, rt, bk, ct, xc⟩ r S1) (xc r)) : wIfS t s1 s2 ⟨nx, rt, bk, ct, xc⟩ r S := h
theorem st_c (h : Q d S) : wC d r S Q E := h
theorem st_var (e : r[i]? = some (some d)) (h : Q d S) : wVar i r S Q E := by
  unfold wVar
  rw [e]
  exact h
theorem st_bin {f : RB.D → RB.D → Store → DK → Prop} (h : m1 r S (fun d1 S1 => m2 r S1 (fun d2 S2 => f d1 d2 S2 Q) E) E) : wBin f m1 m2 r S Q E := h
theorem st_un {f : RB.D → Store → DK → Prop} (h : m r S (fun d S1 => f d S1 Q) E) : wUn f m r S Q E := h
theorem st_cb {f : List RB.D → Store → DK → Prop} (h : ma r S (fun ds S1 => f ds S1 Q) E) : wCB f ma r S Q E := h
theorem st_nil (h : QA [] S) : wNil r S QA E := h
theorem st_cons (h : m r S (fun d S1 => ma r S1 (fun ds S2 => QA (d :: ds) S2) E) E) : wCons m ma r S QA E := h
theorem st_b1 {f : RB.D → Store → DK → Prop} (h : f d S Q) : b1 f [d] S Q := h
theorem st_b2 {f : RB.D → RB.D → Store → DK → Prop} (h : f d1 d2 S Q) : b2 f [d1, d2] S Q := h
theorem st_call {sp : DSp} {dds : List RB.D} (h : ma r S (fun vs S1 => sp (vs ++ dds) S1 Q E) E) : wCall sp dds ma r S Q E := h
theorem st_callK {sp : DSp} {g : List RB.D → List RB.D} (h : ma r S (fun vs S1 => sp (g vs) S1 Q E) E) : wCallK sp g ma r S Q E := h
theorem st_test (h : m r S (fun d S1 => match d with
  | .p (.bl b) => QT b S1
  | _ => False) E) : wTest m r S QT E := h
theorem st_and (h : t1 r S (fun b S1 => if b = true then t2 r S1 QT E else QT false S1) E) : wAnd t1 t2 r S QT E := h
theorem st_or (h : t1 r S (fun b S1 => if b = true then QT true S1 else t2 r S1 QT E) E) : wOr t1 t2 r S QT E := h
theorem st_not (h : t1 r S (fun b S1 => QT (!b) S1) E) : wNot t1 r S QT E := h
theorem st_yes (h : QT true S) : wYes r S QT E := h
theorem st_andV (h : m1 r S (fun d S1 => match d with
  | .p (.bl true) => m2 r S1 Q E
  | .p (.bl false) => Q (.p (.bl false)) S1
  | _ => False) E) : wAndV m1 m2 r S Q E := h
theorem st_orV (h : m1 r S (fun d S1 => match d with
  | .p (.bl true) => Q (.p (.bl true)) S1
  | .p (.bl false) => m2 r S1 Q E
  | _ => False) E) : wOrV m1 m2 r S Q E := h
theorem st_notV (h : m r S (fun d S1 => match d with
  | .p (.bl b) => Q (.p (.bl (!b))) S1
  | _ => False) E) : wNotV m r S Q E := h
theorem st_if (h : t r S (fun b S1 => if b = true then m1 r S1 Q E else m2 r S1 Q E) E) : wIf t m1 m2 r S Q E := h
theorem st_chain {f g : RB.D → RB.D → Store → DK → Prop} (h : m1 r S (fun d1 S1 => m2 r S1 (fun d2 S2 => f d1 d2 S2 (fun z S3 => match z with
  | .p (.bl true) => m3 r S3 (fun d3 S4 => g d2 d3 S4 Q) E
  | .p (.bl false) => Q (.p (.bl false)) S3
  | _ => False)) E) E) : wChain f g m1 m2 m3 r S Q E := h
theorem st_disp {mk : List P → P} (h : ma r S (fun ds S1 => match allP ds with
  | some ps => ps.length ≤ sizeLine ∧ Q (.p (mk ps)) S1
  | none => False) E) : wDisp mk ma r S Q E := h
theorem st_newL (h : ma r S (fun ds S1 => match allP ds with
  | some ps => ps.length ≤ sizeLine ∧ Q (.cell S1.length) (S1 ++ [.lst ps])
  | none => False) E) : wNewL ma r S Q E := h
theorem st_sl {ml mh : WO} (h : m r S (fun d S1 => ml r S1 (fun lo S2 => mh r S2 (fun hi S3 => dSl d lo hi S3 Q) E) E) E) : wSl m ml mh r S Q E := h
theorem st_noP {QO : Option Int → Store → Prop} (h : QO none S) : wNoP r S QO E := h
theorem st_part {QO : Option Int → Store → Prop} (h : m r S (fun d S1 => match d with
  | .p (.int i) => QO (some i) S1
  | _ => False) E) : wPart m r S QO E := h
theorem st_dput {mo mi mv : WE} (h : mv r S (fun dv S1 => mo r S1 (fun d S2 => mi r S2 (fun dk S3 => dDPut d dk dv S3 (fun S4 => nx r S4)) (xc r)) (xc r)) (xc r)) : wDPut mo mi mv ⟨nx, rt, bk, ct, xc⟩ r S := h
theorem st_join (h : m1 r S (fun d1 S1 => match d1 with
  | .p (.str a) => m2 r S1 (fun d2 S2 => dJoin (.p (.str a)) d2 S2 Q) E
  | _ => False) E) : wJoin m1 m2 r S Q E := h
theorem st_lc {mi : WA} {T : Tgt} {vs : List Nat} (h : mi r S (fun ds S1 => lcRun T t m (wipeR r vs) ds [] S1 (fun ps S2 => Q (.p (.lst ps)) S2)) E) : wLC mi T t m vs r S Q E := h
theorem st_rng (h : ma r S (fun ds S1 => match ds with
  | [.p (.int j)] => -(2 ^ 62) ≤ j ∧ j < 2 ^ 62 ∧ QA (rngD 0 j.toNat) S1
  | [.p (.int i), .p (.int j)] => (-(2 ^ 62) ≤ i ∧ i < 2 ^ 62 ∧ -(2 ^ 62) ≤ j ∧ j < 2 ^ 62) ∧ QA (rngD i (j - i).toNat) S1
  | _ => False) E) : wRng ma r S QA E := h
theorem st_it (h : m r S (fun d S1 => match itemsOf S1 d with
  | some ds => QA ds S1
  | none => False) E) : wIt m r S QA E := h
theorem st_for {mi : WA} {T : Tgt} (h : mi r S (fun ds S1 => forRun T s1 ⟨nx, rt, bk, ct, xc⟩ ds r S1) (xc r)) : wFor mi T s1 ⟨nx, rt, bk, ct, xc⟩ r S := h
theorem st_isi2 {A B : String} (h : m r S (fun d S1 => match tyS S1 d with
  | some t => Q (.p (.bl (isB t A || isB t B))) S1
  | none => False) E) : wIsi2 A B m r S Q E := h
theorem st_dnew (h : Q (.p (.dK [] [])) S) : wDNew r S Q E := h
theorem st_dict {fin : List Key → List P → Store → DK → Prop} {ms : List (WE × WE)} (h : wPairs ms r S (fun ps S1 => match kvsOf ps with
  | some (ks, vs) => ks.Nodup ∧ ks.length ≤ 15 ∧ fin ks vs S1 Q
  | none => False) E) : wDict fin ms r S Q E := h
theorem st_pcons {k v : WE} {ms : List (WE × WE)} {QP : List (RB.D × RB.D) → Store → Prop} (h : k r S (fun dk S1 => v r S1 (fun dv S2 => wPairs ms r S2 (fun ps S3 => QP ((dk, dv) :: ps) S3) E) E) E) : wPairs ((k, v) :: ms) r S QP E := h
theorem st_pnil {QP : List (RB.D × RB.D) → Store → Prop} (h : QP [] S) : wPairs [] r S QP E := h
theorem st_ite {A B : Prop} {b : Bool} (h1 : b = true → A) (h2 : b = false → B) : if b = true then A else B := by
  cases b with
  | true => exact iteT (h1 rfl)
  | false => exact iteF (h2 rfl)
/-! values -/
variable {x y : Int}
theorem st_addI (h : Q (.p (.int (x + y))) S) : dAdd (.p (.int x)) (.p (.int y)) S Q := h
theorem st_addS {a b : Str} (l : a.length + b.length ≤ sizeLine) (h : Q (.p (.str (a ++ b))) S) : dAdd (.p (.str a)) (.p (.str b)) S Q := ⟨l, h⟩
theorem st_addL {a b : List P} (l : a.length + b.length ≤ sizeLine) (h : Q (.p (.lst (a ++ b))) S) : dAdd (.p (.lst a)) (.p (.lst b)) S Q := ⟨l, h⟩
theorem st_addT {a b : List P} (l : a.length + b.length ≤ sizeLine) (h : Q (.p (.tup (a ++ b))) S) : dAdd (.p (.tup a)) (.p (.tup b)) S Q := ⟨l, h⟩
theorem st_i0 {g : Int → Int → P} (h : Q (.p (g x y)) S) : dInt (fun _ _ => True) g (.p (.int x)) (.p (.int y)) S Q := ⟨trivial, h⟩
theorem st_i {C : Int → Int → Prop} {g : Int → Int → P} (c : C x y) (h : Q (.p (g x y)) S) : dInt C g (.p (.int x)) (.p (.int y)) S Q := ⟨c, h⟩
theorem st_mul (c : CMul x y ∨ CMulW x y) (h : Q (.p (.int (x * y))) S) : dMul (.p (.int x)) (.p (.int y)) S Q := ⟨c, h⟩
theorem st_neg (h : Q (.p (.int (-x))) S) : dNeg (.p (.int x)) S Q := h
theorem st_toInt (h : Q (.p (.int x)) S) : dToInt (.p (.int x)) S Q := h
theorem st_i1 {g : Int → P} (h : Q (.p (g x)) S) : dI1 g (.p (.int x)) S Q := h
theorem st_lenS {z : Str} (l : z.length ≤ sizeLine) (h : Q (.p (.int z.length)) S) : dLen (.p (.str z)) S Q := ⟨l, h⟩
theorem st_lenL {a : List P} (h : Q (.p (.int a.length)) S) : dLen (.p (.lst a)) S Q := h
theorem st_lenC {a : List P} (h : Q (.p (.int a.length)) S) : dLen (.p (.scr a)) S Q := h
theorem st_lenT {a : List P} (h : Q (.p (.int a.length)) S) : dLen (.p (.tup a)) S Q := h
theorem st_ixL {a : List P} {p : P} (e : atI a x = some p) (h : Q (.p p) S) : dIx (.p (.lst a)) (.p (.int x)) S Q := ⟨p, e, h⟩
theorem st_ixT {a : List P} {p : P} (e : atI a x = some p) (h : Q (.p p) S) : dIx (.p (.tup a)) (.p (.int x)) S Q := ⟨p, e, h⟩
theorem st_ixS {z : Str} {c : Nat} (l : z.length ≤ sizeLine) (e : atI z.cps.toList x = some c) (h : Q (.p (.str ⟨#[c]⟩)) S) : dIx (.p (.str z)) (.p (.int x)) S Q := ⟨l, c, e, h⟩
theorem st_slS {z : Str} {lo hi : Option Int} (l : z.length ≤ sizeLine) (h : Q (.p (.str (cutS z lo hi))) S) : dSl (.p (.str z)) lo hi S Q := ⟨l, h⟩
theorem st_lstL {a : List P} (h : Q (.p (.lst a)) S) : dListOf (.p (.lst a)) S Q := h
theorem st_lstT {a : List P} (h : Q (.p (.lst a)) S) : dListOf (.p (.tup a)) S Q := h
theorem st_tupL {a : List P} (h : Q (.p (.tup a)) S) : dTupleOf (.p (.lst a)) S Q := h
theorem st_tupT {a : List P} (h : Q (.p (.tup a)) S) : dTupleOf (.p (.tup a)) S Q := h
theorem st_reprB {b : Bool} (h : Q (.p (.str (if b then "True" else "False"))) S) : dReprB (.p (.bl b)) S Q := h
theorem st_isi {T t : String} (hT : T ∈ ["bool", "int", "str", "tuple", "list", "dict"]) (e : tyS S d = some t) (h : Q (.p (.bl (isB t T))) S) : dIsi d (.p (.ty T)) S Q := ⟨hT, by rw [e]; exact h⟩
theorem st_inS {c : Nat} {z : Str} {neg : Bool} (h : Q (.p (.bl (if neg then !decide (c ∈ z.cps.toList) else decide (c ∈ z.cps.toList)))) S) : dInS neg (.p (.str ⟨#[c]⟩)) (.p (.str z)) S Q := ⟨c, rfl, h⟩
theorem st_rtP {n : Nat} {p : P} (l : S.length = n) (h : Q (.p p) S) : (endsF n Q E).rt (.p p) S := by
  show Q (.p p) (S.take n)
  rw [List.take_of_length_le (by omega)]
  exact h
theorem st_nxF {n : Nat} (l : S.length = n) (h : Q (.p .non) S) : (endsF n Q E).nx r S := by
  show Q (.p .non) (S.take n)
  rw [List.take_of_length_le (by omega)]
  exact h
theorem st_rtC {n k : Nat} (l : S.length = n) (lk : k < n) (h : Q (.cell k) S) : (endsF n Q E).rt (.cell k) S := by
  show Q (.cell k) (if k < n then S.take n else S)
  rw [if_pos lk, List.take_of_length_le (by omega)]
  exact h
theorem st_rtN {n k : Nat} (lk : n ≤ k) (h : Q (.cell k) S) : (endsF n Q E).rt (.cell k) S := by
  show Q (.cell k) (if k < n then S.take n else S)
  rw [if_neg (by omega)]
  exact h
end
end RB
/-! The lifted layer: loops and comprehensions by what they keep. -/
namespace RB
open PySem PySem.Spec PyProof.Rows L2
theorem lcRun_pure {T : Tgt} {mt : WT} {me : WE} {r0 : Rho} {S : Store} {k : List P → Store → Prop} {t : D → Bool} {g : D → P} : ∀ {ds : List D} {acc : List P}, (∀ d ∈ ds, ∃ r, bindT T d r0 = some r ∧ (∀ QT E, QT (t d) S → mt r S QT E) ∧ (t d = true → ∀ Q E, Q (.p (g d)) S → me r S Q E)) → acc.length + ds.length ≤ sizeLine → k (acc ++ (ds.filter t).map g) S → lcRun T mt me r0 ds acc S k
  | [], acc, _, _, hk => by
    unfold lcRun
    simpa using hk
  | d :: ds, acc, h, l, hk => by
    unfold lcRun
    obtain ⟨r, e, ht, hm⟩ := h d (List.mem_cons_self ..)
    rw [e]
    refine ht _ _ ?_
    have l' : acc.length + (ds.length + 1) ≤ sizeLine := l
    cases c : t d with
    | true =>
      refine iteT (hm c _ _ ?_)
      refine ⟨by omega, ?_⟩
      refine lcRun_pure (fun x m => h x (List.mem_cons_of_mem _ m)) (by simp only [List.length_append, List.length_cons, List.length_nil]; omega) ?_
      rw [List.filter_cons, if_pos c, List.map_cons] at hk
      simpa using hk
    | false =>
      refine iteF ?_
      refine lcRun_pure (fun x m => h x (List.mem_cons_of_mem _ m)) (by omega) ?_
      rw [List.filter_cons, if_neg (by simp [c])] at hk
      exact hk
theorem lcRun_inv' {T : Tgt} {me : WE} {r0 : Rho} {k : List P → Store → Prop} {I : Nat → List P → Store → Prop} {n : Nat} : ∀ {ds : List D} {i : Nat} {acc : List P} {S : Store}, (∀ j d acc S (K : DK), ds[j]? = some d → I (i + j) acc S → ∃ r, bindT T d r0 = some r ∧ ((∀ p S2, I (i + j + 1) (acc ++ [p]) S2 → K (.p p) S2) → me r S K (fun _ _ => False))) → i + ds.length = n → (∀ acc S, I n acc S → k acc S) → I i acc S → acc.length + ds.length ≤ sizeLine → lcRun T wYes me r0 ds acc S k
  | [], i, acc, S, _, e, f, h, _ => by
    unfold lcRun
    have e' : i = n := e
    subst e'
    exact f _ _ h
  | d :: ds, i, acc, S, st, e, f, h, l => by
    unfold lcRun
    have l' : acc.length + (ds.length + 1) ≤ sizeLine := l
    have e' : i + (ds.length + 1) = n := e
    obtain ⟨r, q, hm⟩ := st 0 d acc S _ rfl h
    rw [q]
    refine st_yes ?_
    refine iteT (hm fun p S2 h2 => ?_)
    refine ⟨by omega, ?_⟩
    refine lcRun_inv' (i := i + 1) (fun j d acc S K hd hi => ?_) (by omega) f h2 (by simp only [List.length_append, List.length_cons, List.length_nil]; omega)
    have := st (j + 1) d acc S K (by simpa using hd) (by rw [show i + (j + 1) = i + 1 + j by omega]; exact hi)
    rw [show i + (j + 1) + 1 = i + 1 + j + 1 by omega] at this
    exact this
theorem lcRun_inv {T : Tgt} {me : WE} {r0 : Rho} {k : List P → Store → Prop} (I : Nat → List P → Store → Prop) {ds : List D} {S : Store} (st : ∀ j d acc S (K : DK), ds[j]? = some d → I j acc S → ∃ r, bindT T d r0 = some r ∧ ((∀ p S2, I (j + 1) (acc ++ [p]) S2 → K (.p p) S2) → me r S K (fun _ _ => False))) (h : I 0 [] S) (l : ds.length ≤ sizeLine) (f : ∀ acc S, I ds.length acc S → k acc S) : lcRun T wYes me r0 ds [] S k :=
  lcRun_inv' (i := 0) (fun j d acc S K hd hi => by rw [Nat.zero_add] at hi ⊢; exact st j d acc S K hd hi) (Nat.zero_add _) f h (by simpa using l)
theorem forRun_inv' {T : Tgt} {mb : WS} {D : DE} {I : Nat → Rho → Store → Prop} {n : Nat} : ∀ {ds : List RB.D} {i : Nat} {r : Rho} {S : Store}, (∀ j d r S (nx ct bk : Rho → Store → Prop), ds[j]? = some d → I (i + j) r S → (∀ r S, I (i + j + 1) r S → nx r S) → (∀ r S, I (i + j + 1) r S → ct r S) → (∀ r S, D.nx r S → bk r S) → ∃ r', bindT T d r = some r' ∧ mb ⟨nx, D.rt, bk, ct, D.xc⟩ r' S) → i + ds.length = n → (∀ r S, I n r S → D.nx r S) → I i r S → forRun T mb D ds r S
  | [], i, r, S, _, e, f, h => by
    unfold forRun
    have e' : i = n := e
    subst e'
    exact f _ _ h
  | d :: ds, i, r, S, st, e, f, h => by
    unfold forRun
    have e' : i + (ds.length + 1) = n := e
    have go : ∀ r S, I (i + 1) r S → forRun T mb D ds r S := fun r S h2 =>
      forRun_inv' (i := i + 1) (fun j d r S nx ct bk hd hi h1 h2 h3 => by
        have := st (j + 1) d r S nx ct bk (by simpa using hd) (by rw [show i + (j + 1) = i + 1 + j by omega]; exact hi) (by rw [show i + (j + 1) + 1 = i + 1 + j + 1 by omega]; exact h1) (by rw [show i + (j + 1) + 1 = i + 1 + j + 1 by omega]; exact h2) h3
        exact this) (by omega) f h2
    obtain ⟨r', q, hm⟩ := st 0 d r S (fun r S => forRun T mb D ds r S) (fun r S => forRun T mb D ds r S) D.nx rfl h go go (fun _ _ x => x)
    rw [q]
    exact hm
theorem forRun_inv {T : Tgt} {mb : WS} {D : DE} (I : Nat → Rho → Store → Prop) {ds : List RB.D} {r : Rho} {S : Store} (st : ∀ j d r S (nx ct bk : Rho → Store → Prop), ds[j]? = some d → I j r S → (∀ r S, I (j + 1) r S → nx r S) → (∀ r S, I (j + 1) r S → ct r S) → (∀ r S, D.nx r S → bk r S) → ∃ r', bindT T d r = some r' ∧ mb ⟨nx, D.rt, bk, ct, D.xc⟩ r' S) (h : I 0 r S) (f : ∀ r S, I ds.length r S → D.nx r S) : forRun T mb D ds r S :=
  forRun_inv' (i := 0) (fun j d r S nx ct bk hd hi h1 h2 h3 => by rw [Nat.zero_add] at hi h1 h2; exact st j d r S nx ct bk hd hi h1 h2 h3) (Nat.zero_add _) f h
theorem st_isiB {T t : String} {b : Bool} {d : D} {S : Store} {Q : DK} (hT : T ∈ ["bool", "int", "str", "tuple", "list", "dict"]) (e : tyS S d = some t) (eb : isB t T = b) (h : Q (.p (.bl b)) S) : dIsi d (.p (.ty T)) S Q := st_isi hT e (by rw [eb]; exact h)
theorem st_dok {ps : List P} {A : Prop} (l : ps.length ≤ sizeLine) (h : A) : ps.length ≤ sizeLine ∧ A := ⟨l, h⟩
theorem st_kvs {ks : List Key} {A : Prop} (n : ks.Nodup) (l : ks.length ≤ 15) (h : A) : ks.Nodup ∧ ks.length ≤ 15 ∧ A := ⟨n, l, h⟩
end RB
/-! The lifted layer: repr of data, dicts among it. -/
namespace RB
open PySem PySem.Spec PyProof.Rows L2
def keyD : Key → PyData
  | .inl i => .int i
  | .inr x => .str x
mutual
def px : P → Option PyData
  | .non => some .none
  | .bl b => some (.bool b)
  | .int i => some (.int i)
  | .str x => some (.str x)
  | .lst xs => (pxs xs).map .list
  | .tup xs => (pxs xs).map .tuple
  | .dK ks xs => (pxs xs).map fun es => .dict ((ks.map keyD).zip es)
  | .scr _ | .ty _ | .dT _ _ | .obj _ _ _ => none
def pxs : List P → Option (List PyData)
  | [] => some []
  | d :: ds => match px d, pxs ds with
    | some x, some xs => some (x :: xs)
    | _, _ => none
end
theorem pxs_len : ∀ {ds : List P} {es : List PyData}, pxs ds = some es → es.length = ds.length
  | [], _, h => by cases h; rfl
  | d :: ds, es, h => by
    rw [pxs] at h
    split at h
    · rename_i x xs h1 h2
      cases h
      simp [pxs_len h2]
    · cases h
section
variable {G : Glob} {X : Cx} {pins : List (Addr × Obj)} {σ : L2.St} {H : Hp} {s : Shared} {wd : Wd}
/-- the fragment knows of the modules' dict -/
abbrev KSys (K : PySem.W.Frag) : Prop := ∃ o, K.lookup sysModules = some o
theorem sys_none (J : Inv X pins σ H s) (hy : KSys X.K) : H sysModules = none := by
  obtain ⟨o, e⟩ := hy
  exact (J.bs _ _ (J.ok.mod.kin _ _ e)).2
theorem keys_read {h : Heap} : ∀ {es : List DictEntry} {kvs : List (Key × Value)} {ds : List PyData} {bs : List Addr}, Pairs (mixKind X.prog X.w) es kvs → ReadsAll h (kvs.map (·.2)) ds bs → ReadsAll h (es.map (·.key)) (kvs.map fun p => keyD p.1) [] ∧ es.map (·.val) = kvs.map (·.2)
  | _, _, _, _, .nil, _ => ⟨.nil, rfl⟩
  | _, _, _, _, .cons (e := e) (kv := kv) hk hv t, r => by
    cases r with
    | cons r1 r2 =>
      obtain ⟨q1, q2⟩ := keys_read t r2
      have hk' : keyIs kv.1 e.key = true := hk
      refine ⟨?_, by simp [hv, q2]⟩
      have kr : Reads h e.key (keyD kv.1) [] := by
        rcases keyIs_shape hk' with ⟨i, t, e1, e2⟩ | ⟨x, t, e1, e2⟩
        · rw [e1, e2]
          exact .int i t
        · rw [e1, e2]
          exact .str x t
      exact .cons kr q1
mutual
theorem px_reads (hK : X.K = G.K) (hy : KSys X.K) (sub : Same wd.I H) (J : Inv X pins σ H s) : ∀ {p : P} {v : V} {u : Value} {e : PyData}, Rep G wd.I v p → px p = some e → RelV v u → ∃ as, Reads s.heap u e as ∧ sysModules ∉ as
  | .non, _, _, _, r, q, t => by
    simp only [Rep] at r
    subst r
    cases q
    cases t
    exact ⟨[], .none, by simp⟩
  | .bl b, _, _, _, r, q, t => by
    simp only [Rep] at r
    subst r
    cases q
    cases t
    exact ⟨[], .bool b, by simp⟩
  | .int i, _, _, _, r, q, t => by
    simp only [Rep] at r
    subst r
    cases q
    obtain ⟨k, rfl⟩ := t
    exact ⟨[], .int i k, by simp⟩
  | .str x, _, _, _, r, q, t => by
    simp only [Rep] at r
    subst r
    cases q
    obtain ⟨k, rfl⟩ := t
    exact ⟨[], .str x k, by simp⟩
  | .lst ds, _, _, _, r, q, t => by
    simp only [Rep] at r
    obtain ⟨a, vs, rfl, ha, rs⟩ := r
    rw [px] at q
    obtain ⟨es, q1, rfl⟩ := Option.map_eq_some_iff.mp q
    cases t
    have hH := sub _ _ ha
    obtain ⟨z, its, n, rv, ho⟩ := J.hok _ _ hH
    obtain ⟨as, hr, hn⟩ := pxs_reads hK hy sub J rs q1 rv
    refine ⟨_, .list ho rfl rfl hr, ?_⟩
    rw [List.mem_cons, not_or]
    refine ⟨fun w => ?_, hn⟩
    rw [← w, sys_none J hy] at hH
    cases hH
  | .tup ds, _, _, _, r, q, t => by
    simp only [Rep] at r
    obtain ⟨a, vs, rfl, ha, rs⟩ := r
    rw [px] at q
    obtain ⟨es, q1, rfl⟩ := Option.map_eq_some_iff.mp q
    cases t
    have hs : SqT X.K H a vs := by
      rw [hK]
      exact Same.tup sub ha
    obtain ⟨its, rv, ⟨o, ho, hc, n, hd⟩, _⟩ := J.tuple hs
    obtain ⟨as, hr, hn⟩ := pxs_reads hK hy sub J rs q1 rv
    exact ⟨_, .tuple ho hc hd hr, hn⟩
  | .dK ks ds, _, _, _, r, q, t => by
    simp only [Rep] at r
    obtain ⟨a, kvs, rfl, ha, hks, rs⟩ := r
    rw [px] at q
    obtain ⟨es, q1, rfl⟩ := Option.map_eq_some_iff.mp q
    cases t
    have hH := sub _ _ ha
    obtain ⟨z, hsm, vs, kv, o, en, ep, ho, hx, hd, _, hp, nd⟩ := J.hok _ _ hH
    have kv2 : vs.map (·.1) = ks ∧ Vals (kvs.map (·.2)) (vs.map (·.2)) := by
      rw [← hks]
      clear hp hH ha hks rs z nd
      induction kv with
      | nil => exact ⟨rfl, .nil⟩
      | cons h1 _ ih => exact ⟨by simp [ih.1, h1.1], .cons h1.2 ih.2⟩
    obtain ⟨bs, hr, hn⟩ := pxs_reads hK hy sub J rs q1 kv2.2
    obtain ⟨k1, k2⟩ := keys_read (X := X) hp hr
    have l1 : (ks.map keyD).length = es.length := by
      rw [pxs_len q1, ← rs.length, ← hks]
      simp
    have e1 : ((ks.map keyD).zip es).map (·.1) = vs.map fun p => keyD p.1 := by
      rw [List.map_fst_zip (by omega), ← kv2.1, List.map_map]
      rfl
    have e2 : ((ks.map keyD).zip es).map (·.2) = es := List.map_snd_zip (by omega)
    refine ⟨_, .dict ho hx.1 hd (by rw [e1]; exact k1) (by rw [e2, k2]; exact hr), ?_⟩
    rw [List.mem_append, List.mem_singleton, not_or]
    refine ⟨fun w => ?_, hn⟩
    rw [← w] at hsm
    simp at hsm
  | .scr _, _, _, _, _, q, _ => by cases q
  | .ty _, _, _, _, _, q, _ => by cases q
  | .dT _ _, _, _, _, _, q, _ => by cases q
  | .obj _ _ _, _, _, _, _, q, _ => by cases q
theorem pxs_reads (hK : X.K = G.K) (hy : KSys X.K) (sub : Same wd.I H) (J : Inv X pins σ H s) : ∀ {ps : List P} {vs : List V} {us : List Value} {es : List PyData}, Reps G wd.I vs ps → pxs ps = some es → Vals vs us → ∃ as, ReadsAll s.heap us es as ∧ sysModules ∉ as
  | [], _, _, _, r, q, t => by
    simp only [Reps] at r
    subst r
    cases q
    cases t
    exact ⟨[], .nil, by simp⟩
  | p :: ps, _, _, _, r, q, t => by
    simp only [Reps] at r
    obtain ⟨v, vr, rfl, r1, r2⟩ := r
    rw [pxs] at q
    split at q
    · rename_i x xs h1 h2
      cases q
      cases t with
      | cons t1 t2 =>
        obtain ⟨as, a1, a2⟩ := px_reads hK hy sub J r1 h1 t1
        obtain ⟨bs, b1, b2⟩ := pxs_reads hK hy sub J r2 h2 t2
        exact ⟨as ++ bs, .cons a1 b1, by simp [a2, b2]⟩
    · cases q
end
/-- a value's data, the store's things among it -/
def pxD (S : Store) : D → Option PyData
  | .p d => px d
  | .cell n => match S[n]? with
    | some (.lst ds) => (pxs ds).map .list
    | some (.dK ks ds) => (pxs ds).map fun es => .dict ((ks.map keyD).zip es)
    | _ => none
  | .fn => none
theorem pxD_reads (hK : X.K = G.K) (hy : KSys X.K) {S : Store} (k : Wok G wd S H) (J : Inv X pins σ H s) {d : D} {v : V} {u : Value} {e : PyData} (r : RepD G wd v d) (q : pxD S d = some e) (t : RelV v u) : ∃ as, Reads s.heap u e as ∧ sysModules ∉ as := by
  cases d with
  | p d => exact px_reads hK hy k.sub J r q t
  | fn => simp [pxD] at q
  | cell n =>
    obtain ⟨a, rfl, ha⟩ := r
    obtain ⟨c, hc, ok⟩ := k.idx ha
    simp only [pxD, hc] at q
    cases c with
    | lst ds =>
      obtain ⟨_, vs, hH, rs⟩ := ok
      have r' : Rep G H (.ref a) (.lst ds) := by
        simp only [Rep]
        exact ⟨a, vs, rfl, hH, rs.mono k.sub⟩
      exact px_reads (wd := ⟨H, [], []⟩) hK hy (Same.refl _) J r' q t
    | dK ks ds =>
      obtain ⟨_, kvs, hH, hks, rs⟩ := ok
      have r' : Rep G H (.ref a) (.dK ks ds) := by
        simp only [Rep]
        exact ⟨a, kvs, rfl, hH, hks, rs.mono k.sub⟩
      exact px_reads (wd := ⟨H, [], []⟩) hK hy (Same.refl _) J r' q t
    | obj _ _ _ => cases q
    | dead => cases q
def dRepr (d : D) (S : Store) (Q : DK) : Prop := match pxD S d with
  | some e => e.showable = true ∧ e.depth ≤ 60 ∧ e.shown.length ≤ sizeLine ∧ Q (.p (.str e.shown)) S
  | none => False
theorem cl_repr (hK : X.K = G.K) (hy : KSys X.K) (hg : X.A.guards = some []) (hu : X.A.units + 64 < cLine) : CallL G X (.builtin "repr") (b1 dRepr) := by
  refine ⟨?_, fun ds S Q Q' hq q => ?_⟩
  · intro pins s σ H xs us Q J rx h
    obtain ⟨w, S, ds, k, rs, q⟩ := h
    unfold b1 at q
    split at q
    · rename_i d
      obtain ⟨x, rfl, r⟩ := reps1 rs
      obtain ⟨u, rfl, ru⟩ := vals1 rx
      unfold dRepr at q
      split at q
      · rename_i e he
        obtain ⟨h1, h2, h3, h4⟩ := q
        obtain ⟨as, rd, ns⟩ := pxD_reads hK hy k J r he ru
        have fin : ∀ h' tk k2, (∀ b o, s.heap.get? b = some o → h'.get? b = some o) → EP X pins σ Q (.str e.shown tk) { s with heap := h', toks := k2 } := fun h' tk k2 kp =>
          ⟨.str e.shown, H, J.kept kp, ⟨tk, rfl⟩, h4.here k (rep_str.mpr rfl)⟩
        cases rd with
        | none => exact PySem.P.repr_of_none ⟨.str _, H, J.tok _, ⟨_, rfl⟩, h4.here k (rep_str.mpr rfl)⟩
        | bool b => exact PySem.P.repr_of_bool ⟨.str _, H, J.tok _, ⟨_, rfl⟩, h4.here k (rep_str.mpr rfl)⟩
        | int i t => exact PySem.P.repr_of_int (of_decide_eq_true h1) ⟨.str _, H, J.tok _, ⟨_, rfl⟩, h4.here k (rep_str.mpr rfl)⟩
        | str x t => exact PySem.P.repr_of_str ⟨.str _, H, J.tok _, ⟨_, rfl⟩, h4.here k (rep_str.mpr rfl)⟩ h3
        | list a1 a2 a3 a4 => exact repr_of_reads' (.list a1 a2 a3 a4) h1 (fun _ => ns) hg (by omega) (fun _ _ z => z) (fun h' tk k2 kp => fin h' tk k2 kp) h3
        | tuple a1 a2 a3 a4 => exact repr_of_reads' (.tuple a1 a2 a3 a4) h1 (fun _ => ns) hg (by omega) (fun _ _ z => z) (fun h' tk k2 kp => fin h' tk k2 kp) h3
        | dict a1 a2 a3 a4 a5 => exact repr_of_reads' (.dict a1 a2 a3 a4 a5) h1 (fun _ => ns) hg (by omega) (fun _ _ z => z) (fun h' tk k2 kp => fin h' tk k2 kp) h3
      · exact q.elim
    · exact q.elim
  · unfold b1 at q ⊢
    split at q
    · unfold dRepr at q ⊢
      split at q
      · exact ⟨q.1, q.2.1, q.2.2.1, hq _ _ q.2.2.2⟩
      · exact q.elim
    · exact q.elim
theorem st_repr {d : D} {S : Store} {Q : DK} {e : PyData} (q : pxD S d = some e) (h1 : e.showable = true) (h2 : e.depth ≤ 60) (h3 : e.shown.length ≤ sizeLine) (h : Q (.p (.str e.shown)) S) : dRepr d S Q := by
  unfold dRepr
  rw [q]
  exact ⟨h1, h2, h3, h⟩
end
/-! ### the hook: a row's facts, and the modules' dict -/
def obsR (fa : List He.Fa) (fn : List He.DefD) (K : PySem.W.Frag) : He.AlD × Bool := (He.obsD fa fn K, (K.lookup sysModules).isSome)
def obsRG (n : Nat) (fa : List He.Fa) (fn : List He.DefD) (g : Addr → Option Obj) : He.AlD × Bool := obsR fa fn (He.frG g (sysModules :: He.asD g n))
def hookR (n : Nat) (fa : List He.Fa) (fn : List He.DefD) : PySem.W.Hook where
  α := He.AlD × Bool
  obs := fun s => obsRG n fa fn s.heap.get?
  val := fun _ => (He.valD fn, true)
  says := fun _ h => ∃ K : PySem.W.Frag, K.In h ∧ He.SaysD fa fn K ∧ KSys K
  of := fun _ _ e => ⟨_, He.frG_in, congrArg Prod.fst e, Option.isSome_iff_exists.mp (congrArg Prod.snd e)⟩
  keeps := fun _ _ _ ⟨K, hK, c⟩ k => ⟨K, PySem.W.Frag.In.keeps hK k, c⟩
theorem obsRG_eq {n : Nat} {fa : List He.Fa} {fn : List He.DefD} {g : Addr → Option Obj} {s : Shared} (h : ∀ a, g a = s.heap.get? a) : obsRG n fa fn g = (hookR n fa fn).obs s := by
  have e : g = s.heap.get? := funext h
  rw [e]
  rfl
end RB
/-! The lifted layer: errors raised. -/
namespace RB
open PySem PySem.Spec PyProof.Rows L2
/-- __init__ of an error: its fields are set, one behind another -/
def spI (K : PySem.W.Frag) (fs : List Str) : Sp := fun vs H Q _ => ∃ (a C : Addr) (ys : List V), vs = .ref a :: ys ∧ ys.length = fs.length ∧ OexC K C ∧ (∀ f ∈ fs, PySem.W.findIn K (.ref C) f = some none) ∧ H a = some (exo a C none) ∧
  ∀ dx, H dx = none → dx ≠ a → Q .non (L2.upd (L2.upd H dx (exd dx (fs.zip ys).reverse)) a (exo a C (some dx)))
theorem spI_len {K : PySem.W.Frag} {fs ps : List Str} (h : ps.length = fs.length + 1) : ∀ vs H Q E, spI K fs vs H Q E → vs.length = ps.length := fun vs H Q E ⟨a, C, ys, e, l, _⟩ => by
  rw [e, h, ← l]
  rfl
theorem upd_turn {H : Hp} {a dx : Addr} {o1 o2 oa : HO} (n : dx ≠ a) : L2.upd (L2.upd (L2.upd H dx o1) a oa) dx o2 = L2.upd (L2.upd H dx o2) a oa := by
  funext b
  by_cases h1 : b = dx
  · subst h1
    rw [upd_same, upd_ne n, upd_same]
  · rw [upd_ne h1]
    by_cases h2 : b = a
    · subst h2
      rw [upd_same, upd_same]
    · rw [upd_ne h2, upd_ne h2, upd_ne h1, upd_ne h1]
section
variable {P : Program} {w : World} {K : PySem.W.Frag} {mg : Str → Option Value} {base : Heap} {x qual : Str} {params : Arguments} {scope : Scope} {dvs : List V} {kws : List (Str × V)} {f : Addr} {fd : FuncData}
theorem ok_init1 {CX : CXT} {N ps : List Str} {p1 p2 p3 p4 : Pos} {me a1 f1 : Str} (F : FunD K x qual params [.Assign [.Attribute (.Name me p1) f1 p2] (.Name a1 p3) p4] scope dvs kws f fd) (S : FnScope N ps scope) (hp : ps.length = 2) (hN : N = [me, a1])
    (v0 : Vis scope me) (v1 : Vis scope a1) (d0 : (me == ("__debug__" : Str)) = false := by decide) (d1 : (a1 == ("__debug__" : Str)) = false := by decide) (c0 : (me == ("__classdict__" : Str)) = false := by decide) (c1 : (a1 == ("__classdict__" : Str)) = false := by decide) :
    FnOk P w K mg base CX 1 f fd ps (spI K [f1]) := by
  refine FunD.ok (k := 0) F S (spI_len hp) fun cdv A outer s H vs Q E hr hsp => ?_
  subst hN
  refine ⟨_, pss_one (ps_ost (pe_var (i := 0) rfl v0 d0 c0) (pe_var (i := 1) rfl v1 d1 c1)), ?_⟩
  obtain ⟨a, C, ys, rfl, l, T, hno, ha, q⟩ := hsp
  match ys, l with
  | [y], _ =>
    refine ⟨y, rfl, .ref a, rfl, a, C, rfl, T, hno f1 (by simp), .inl ⟨ha, fun dx n ne => ?_⟩⟩
    exact q dx n ne
theorem ok_init2 {CX : CXT} {N ps : List Str} {p1 p2 p3 p4 q1 q2 q3 q4 : Pos} {me a1 f1 a2 f2 : Str} (F : FunD K x qual params [.Assign [.Attribute (.Name me p1) f1 p2] (.Name a1 p3) p4, .Assign [.Attribute (.Name me q1) f2 q2] (.Name a2 q3) q4] scope dvs kws f fd) (S : FnScope N ps scope) (hp : ps.length = 3) (hN : N = [me, a1, a2])
    (v0 : Vis scope me) (v1 : Vis scope a1) (v2 : Vis scope a2) (d0 : (me == ("__debug__" : Str)) = false := by decide) (d1 : (a1 == ("__debug__" : Str)) = false := by decide) (d2 : (a2 == ("__debug__" : Str)) = false := by decide)
    (c0 : (me == ("__classdict__" : Str)) = false := by decide) (c1 : (a1 == ("__classdict__" : Str)) = false := by decide) (c2 : (a2 == ("__classdict__" : Str)) = false := by decide) :
    FnOk P w K mg base CX 1 f fd ps (spI K [f1, f2]) := by
  refine FunD.ok (k := 0) F S (spI_len hp) fun cdv A outer s H vs Q E hr hsp => ?_
  subst hN
  refine ⟨_, pss_cons (ps_ost (pe_var (i := 0) rfl v0 d0 c0) (pe_var (i := 1) rfl v1 d1 c1)) (pss_one (ps_ost (pe_var (i := 0) rfl v0 d0 c0) (pe_var (i := 2) rfl v2 d2 c2))), ?_⟩
  obtain ⟨a, C, ys, rfl, l, T, hno, ha, q⟩ := hsp
  match ys, l with
  | [y, z], _ =>
    refine ⟨y, rfl, .ref a, rfl, a, C, rfl, T, hno f1 (by simp), .inl ⟨ha, fun dx n ne => ?_⟩⟩
    refine ⟨z, rfl, .ref a, rfl, a, C, rfl, T, hno f2 (by simp), .inr ⟨dx, [(f1, y)], upd_same, ?_, (Nat.le_of_ble_eq_true rfl), ?_⟩⟩
    · rw [upd_ne ne, upd_same]
    · rw [upd_turn ne]
      exact q dx n ne
end
/-- what a row knows of an error's class -/
structure ExK (K : PySem.W.Frag) (C fI : Addr) (fs : List Str) : Prop where
  T : OexC K C
  i : PySem.W.findIn K (.ref C) "__init__" = some (some (.ref fI))
  t : PySem.W.typeIn K (.ref fI) = some (.type "function")
  no : ∀ f ∈ fs, PySem.W.findIn K (.ref C) f = some none
def wRaise (c : String) (fs : List Str) (ma : WA) : WS := fun D r S => ma r S (fun ds S1 => match allP ds with
  | some ps => ps.length = fs.length ∧ fs.length ≤ 900 ∧ D.xc r ⟨c, fs.reverse, ps.reverse⟩ S1
  | none => False) (D.xc r)
theorem Reps.reverse {G : Glob} {I : Hp} : ∀ {vs : List V} {ps : List P}, Reps G I vs ps → Reps G I vs.reverse ps.reverse
  | _, [], h => by
    simp only [Reps] at h
    subst h
    exact Reps.nil
  | _, p :: ps, h => by
    simp only [Reps] at h
    obtain ⟨v, r, rfl, h1, h2⟩ := h
    rw [List.reverse_cons, List.reverse_cons]
    exact (Reps.reverse h2).append (Reps.cons h1 Reps.nil)
section
variable {G : Glob} {X : Cx} {W : WX} {n k : Nat} {f Cc : Addr} {fd : FuncData} {ps fs : List Str} {x : Str} {p pos pos' : Pos} {e : Expr} {es : List Expr} {ma : WA} {c : String}
theorem rs_raise (C : CxG G X W n) (T : ExK X.K Cc f fs) (F : FnOk X.prog X.w X.K X.mg X.base (L2.CX X.prog X.w) k f fd ps (spI X.K fs)) (hk : k + 1 ≤ n) (hb : Binds X.K fd ps []) (hg : Gl X x) (hm : X.mg x = some (.ref Cc)) (hc : G.cls c = some Cc) (hi : G.isE c = true) (ha : RA G X W (e :: es) ma)
    (hdb : (x == ("__debug__" : Str)) = false := by decide) (he : starEach (e :: es) X.env = (false, eval e X.env) :: starEach es X.env := by rfl) (hpl : (backTo pos (starEach es X.env)).any (·.1) = false := by rfl) :
    RS G X W (.Raise (some (.Call (.Name x p) (e :: es) [] pos)) none pos') (wRaise c fs ma) := by
  have M := pmk_oex (pos := pos) (p := p) T.T T.i T.t F (C.rm.mono hk) hb (dvs := []) .nil (passes_call C.tk fun _ _ _ _ z => z.elim) hg hm ha.pe hdb he hpl
  refine ⟨PS.imp (ps_raise C.calm C.tk M) fun D σ H ⟨w, S, r, ok, en, q⟩ => ?_, fun D D' r S l h => ?_⟩
  · refine ⟨w, S, r, ok, en, ha.mono r S _ _ _ _ (fun ds S1 q vs w1 H1 x1 k1 rs => ?_) (fun y S' q => q.at_ en) q⟩
    split at q
    · rename_i ps' hp
      obtain ⟨l1, l2, q⟩ := q
      have rp := rs.pure hp
      have lv : vs.length = fs.length := by rw [rp.length, l1]
      refine ⟨by omega, fun a na => ?_⟩
      refine ⟨a, Cc, vs, by rw [List.append_nil], lv, T.T, T.no, upd_same, fun dx nd ne => ?_⟩
      have nd1 : H1 dx = none := by
        rw [upd_ne ne] at nd
        exact nd
      refine ⟨rfl, dx, (fs.zip vs).reverse, upd_same, by rw [upd_ne ne, upd_same], nd1, ?_⟩
      have eH : L2.upd (L2.del (L2.upd (L2.upd (L2.upd H1 a (exo a Cc none)) dx (exd dx (fs.zip vs).reverse)) a (exo a Cc (some dx))) a) dx (.xd (fs.zip vs).reverse) = L2.upd H1 dx (.xd (fs.zip vs).reverse) := by
        funext b
        by_cases h1 : b = dx
        · subst h1
          rw [upd_same, upd_same]
        · rw [upd_ne h1, upd_ne h1]
          by_cases h2 : b = a
          · subst h2
            rw [del_same, na]
          · rw [del_ne h2, upd_ne h2, upd_ne h1, upd_ne h2]
      rw [eH]
      obtain ⟨k2, x2⟩ := k1.alloc (o := .xd (fs.zip vs).reverse) nd1
      refine q σ (.ref Cc) (some dx) _ _ (x1.trans x2) k2 ((en.mono x1).mono x2) ⟨by rw [hc]; rfl, hi, .inr ⟨dx, _, rfl, upd_same, ?_, ?_⟩⟩
      · rw [List.map_reverse, List.map_fst_zip (by omega)]
      · rw [List.map_reverse, List.map_snd_zip (by omega)]
        exact (rp.reverse).mono x2.I
    · exact q.elim
  · refine ha.mono _ _ _ _ _ _ (fun ds S1 q => ?_) (fun y S' q => l.xc _ _ _ q) h
    split at q
    · rename_i ps' hp
      exact ⟨q.1, q.2.1, l.xc _ _ _ q.2.2⟩
    · exact q.elim
end
end RB
/-! The lifted layer: try, errors caught and held as values. -/
namespace RB
open PySem PySem.Spec PyProof.Rows L2
theorem xob_ok {Pr : Program} {w : World} {H : Hp} {h : Heap} {a C : Addr} {dd : Option Addr} {oe : Obj} {vs : Array Value} (e : h.get? a = some oe) (c : oe.cls = .ref C) (d : oe.dict = dd) (v : oe.data = .fields vs) : ObjOk Pr w H h a (xob a C dd) := by
  refine ⟨⟨oe, vs, e, c, d, v⟩, ⟨oe, e⟩, fun h1 h2 ⟨o1, v1, e1, c1, d1, w1⟩ k => ⟨o1, v1, k _ e1, c1, d1, w1⟩⟩
section
variable {X : Cx} {pins : List (Addr × Obj)} {σ : L2.St} {H : Hp} {s : Shared}
/-- the context of an except suite: what is caught stands among the things -/
abbrev hotX (X : Cx) (a : Addr) : Cx := { X with A := X.A.mark (some (.ref a)), calm := false, xe := fun _ _ => False }
theorem hot_ok (k : X.Ok) (a : Addr) : (hotX X a).Ok := { k with hd := fun z => nomatch z }
theorem hot_in (J : Inv X pins σ H s) (a : Addr) : Inv (hotX X a) pins σ H s := { J with ok := hot_ok J.ok a }
theorem hot_out {a : Addr} (k : X.Ok) (J : Inv (hotX X a) pins σ H s) : Inv X pins σ H s := { J with ok := k }
/-- a thing that stands there already is tracked from now on -/
theorem hold_in (J : Inv X pins σ H s) {a C : Addr} {dd : Option Addr} {oe : Obj} {vs : Array Value} (e : s.heap.get? a = some oe) (c : oe.cls = .ref C) (d : oe.dict = dd) (v : oe.data = .fields vs) (na : H a = none) (nl : a ≠ X.env.locals)
    (n0 : X.s_0.heap.get? a = none) (np : ∀ p ∈ X.pn ++ pins, p.1 ≠ a) : Inv X pins σ (L2.upd H a (xob a C dd)) s := by
  have ne : ∀ {b : Addr} {o : HO}, H b = some o → b ≠ a := fun {b o} hb z => by
    rw [z, na] at hb
    cases hb
  have up : ∀ {b : Addr} {o : HO}, H b = some o → L2.upd H a (xob a C dd) b = some o := fun {b o} hb => by
    rw [upd_ne (ne hb)]
    exact hb
  have B := J.base
  refine { J with base := ⟨B.keep, B.slot, fun b o h1 h2 h3 => ?_, B.there, fun b xs q => up (B.tups b xs q), fun b o u q => up (B.frzs b o u q), fun b ps q => ?_⟩, free := ?_, freeC := fun x y q => ?_, pin := fun p hp => ?_, hok := fun b o q => ?_ }
  · have nb : b ≠ a := fun z => by
      rw [z, n0] at h1
      cases h1
    rw [upd_ne nb]
    exact B.free b o h1 h2 h3
  · obtain ⟨more, z⟩ := B.tbls b ps q
    exact ⟨more, up z⟩
  · rw [upd_ne (Ne.symm nl)]
    exact J.free
  · have nb : y ≠ a := fun z => by
      obtain ⟨u, o1, q1, q2⟩ := J.cell x y q
      rw [z, e] at q1
      cases q1
      rw [v] at q2
      cases q2
    rw [upd_ne nb]
    exact J.freeC x y q
  · obtain ⟨q1, q2, q3⟩ := J.pin p hp
    exact ⟨q1, by rw [upd_ne (np p hp)]; exact q2, q3⟩
  · by_cases z : b = a
    · subst z
      rw [upd_same] at q
      cases q
      exact xob_ok e c d v
    · rw [upd_ne z] at q
      exact (J.hok b o q).stay (fun _ _ _ k => k) (fun _ k => up k) fun _ _ k => up k
end
/-- the clauses of a try: each a class, the name's slot, the suite -/
inductive HdX (X : Cx) : List ExceptHandler → List (List Value × Nat × TS) → Prop
  | nil : HdX X [] []
  | cons {x n : Str} {c : Value} {i : Nat} {ts : TS} {b0 : Stmt} {su : List Stmt} {np hp : Pos} {hds : List ExceptHandler} {l : List (List Value × Nat × TS)} (hi : X.N[i]? = some n) (hl : X.env.kindOf n = some .local) (hc : Names X x c)
      (hsu : ∀ a, PSs (hotX X a) (b0 :: su) ts) (r : HdX X hds l) : HdX X (.ExceptHandler (some (.Name x np)) (some n) (b0 :: su) hp :: hds) (([c], i, ts) :: l)
  | consT {x1 x2 x3 x4 n : Str} {c1 c2 c3 c4 : Value} {i k : Nat} {ts : TS} {b0 : Stmt} {su : List Stmt} {p1 p2 p3 p4 np hp : Pos} {hds : List ExceptHandler} {l : List (List Value × Nat × TS)} (hi : X.N[i]? = some n) (hl : X.env.kindOf n = some .local) (h1 : Names X x1 c1) (h2 : Names X x2 c2) (h3 : Names X x3 c3) (h4 : Names X x4 c4)
      (hsu : ∀ a, PSs (hotX X a) (b0 :: su) ts) (r : HdX X hds l) : HdX X (.ExceptHandler (some (.Tuple [.Name x1 p1, .Name x2 p2, .Name x3 p3, .Name x4 p4] k np)) (some n) (b0 :: su) hp :: hds) (([c1, c2, c3, c4], i, ts) :: l)
theorem exm1 {K : PySem.W.Frag} {cls c : Value} {b : Bool} (h : PySem.W.exmOne K cls c = some b) : PySem.W.exmAny K cls [c] = some b := by
  unfold PySem.W.exmAny
  rw [h]
  simp [PySem.W.exmAny]
theorem exm1_of {K : PySem.W.Frag} {cls c : Value} {b : Bool} (h : PySem.W.exmAny K cls [c] = some b) : PySem.W.exmOne K cls c = some b := by
  obtain ⟨b1, d1, h1, h2, h3⟩ := PySem.W.exmAny_cons h
  have h2 : some false = some d1 := h2
  cases h2
  rw [h1, h3, Bool.or_false]
theorem fly_keeps {base h h' : Heap} {l : List Env} {e : Addr} {Z : Obj → Prop} (x : HandSPX.FlyingZ base l e Z h) (k : ∀ b o, h.get? b = some o → h'.get? b = some o) : HandSPX.FlyingZ base l e Z h' := by
  obtain ⟨a1, a2, a3, oe, vs, T, oT, ts, b1, b2, b3, b4, b5, b6, b7, b8, b9⟩ := x
  exact ⟨fun b o z => k _ _ (a1 b o z), a2, a3.of_keeps fun b o z _ => ⟨o, k _ _ z, rfl⟩, oe, vs, T, oT, ts, k _ _ b1, b2, b3, b4, b5, b6, k _ _ b7, b8, b9⟩
/-- what a suite's end is, the name gone -/
abbrev goneD (D : Ends) (i : Nat) : Ends := { nx := fun τ I => D.nx (τ.set i none) I, rt := D.rt, bk := fun τ I => D.bk (τ.set i none) I, ct := fun τ I => D.ct (τ.set i none) I }
def wHd (K : PySem.W.Frag) (Wo : WX) (D : Ends) : List (List Value × Nat × TS) → WX
  | [], cls, d, σ, H => Wo cls d σ H
  | (c, i, ts) :: l, cls, d, σ, H => ∃ b, PySem.W.exmAny K cls c = some b ∧ (b = true → ∃ C, cls = .ref C ∧ ∀ a, H a = none → ts (goneD D i) (σ.set i (some (.ref a))) (L2.upd H a (xob a C d))) ∧ (b = false → wHd K Wo D l cls d σ H)
section
variable {X : Cx} {body : List Stmt} {h0 : ExceptHandler} {hds : List ExceptHandler} {l : List (List Value × Nat × TS)} {pos : Pos} {tb : WX → TS} {Wo : WX}
theorem ps_tryX (st : X.stack = X.env :: X.outer) (fr : X.env.frame = some X.env.locals) (nx : X.ex = []) (nd : X.N.Nodup) (tk : Takes X Wo)
    (hb : ∀ (W : WX) (pn : List (Addr × Obj)) (xe : Value → Shared → Prop), Takes (X.tr pn xe) W → PassesOwn (model X.prog X.w) X.A X.env xe → PSs (X.tr pn xe) body (tb W)) (hh : HdX X (h0 :: hds) l) :
    PS X (.Try body (h0 :: hds) [] [] pos) (fun D σ H => tb (wHd X.K Wo D l) D σ H) := by
  refine ⟨fun pins s σ H D J q => ?_⟩
  have ok := J.ok
  have fs : X.A.frames = some (X.env :: X.outer) := by
    rw [ok.frames, st]
  refine wpAny_Try_except ?_
  have run := (hb (wHd X.K Wo D l) (X.pn ++ pins) (fun e s1 => wpAny (model X.prog X.w) X.A (noteFrame e X.env) (fun _ s2 => wpAny (model X.prog X.w) X.A (setFlight e none) (fun _ s3 =>
    wpAny (model X.prog X.w) X.A (handleBy e X.env (h0 :: hds)) (SP X pins D) X.xe s3) X.xe s2) X.xe s1) (fun u z xx => ?_) PassesOwn.looking).run [] s σ H D (J.toTry _) q
  · refine wpAny_mono run (fun f s1 r => ?_) fun _ _ z => z
    cases f with
    | next =>
      obtain ⟨τ, I, Ji, r⟩ := r
      exact wpAny_execs_nil ⟨τ, I, Ji.ofTry ok, r⟩
    | brk =>
      obtain ⟨τ, I, Ji, r⟩ := r
      exact ⟨τ, I, Ji.ofTry ok, r⟩
    | cont =>
      obtain ⟨τ, I, Ji, r⟩ := r
      exact ⟨τ, I, Ji.ofTry ok, r⟩
    | ret u =>
      obtain ⟨y, τ, I, Ji, ry, r⟩ := r
      exact ⟨y, τ, I, Ji.ofTry ok, ry, r⟩
  · obtain ⟨a, B, sI, _, τ, I, cls, d, rfl, Jt, nb, up, sky, na, eo, ag, ww⟩ := xx
    have Ji : Inv X pins τ I sI := Jt.ofTry ok
    rw [st] at sky
    show wpAny (model X.prog X.w) X.A (noteFrame (.ref a) X.env) _ _ z
    refine Sky.land Zc.steady fs fr sky fun h3 fl up3 => ?_
    have J3 : Inv X pins τ I { z with heap := h3 } := Ji.landed nb fl.1 (up.trans up3) eo ag
    obtain ⟨o3, v3, e3, z3, d3⟩ := fl.there
    have ba : B.get? a = none := fl.2.1
    have far : a ∉ frs (X.env :: X.outer) := fun hm => by
      obtain ⟨_, o', e', nf⟩ := fl.2.2.1.mem hm
      rw [e3] at e'
      cases e'
      exact nf _ d3
    have nl : a ≠ X.env.locals := fun y => far (List.mem_filterMap.mpr ⟨X.env, List.mem_cons_self, by rw [fr, y]⟩)
    have alien : ∀ b o, sI.heap.get? b = some o → b = a → False := fun b o e y => by
      subst y
      rw [nb b o e (by rw [st]; exact far)] at ba
      cases ba
    have n0 : X.s_0.heap.get? a = none := by
      cases y : X.s_0.heap.get? a with
      | none => rfl
      | some o =>
        obtain ⟨o', e'⟩ := Ji.base.there a o y (by rw [nx]; exact fun m => nomatch m)
        exact (alien a o' e' rfl).elim
    have np : ∀ p ∈ X.pn ++ pins, p.1 ≠ a := fun p hp y => alien p.1 p.2 (Ji.pin p hp).1 y
    have go : ∀ {hs' : List ExceptHandler} {l' : List (List Value × Nat × TS)}, HdX X hs' l' → wHd X.K Wo D l' cls d τ I → ∀ h3 : Heap, HandSPX.FlyingZ B (X.env :: X.outer) a (Zc cls d) h3 → sI.heap.UpToSlots h3 → wpAny (model X.prog X.w) X.A (handleBy (.ref a) X.env hs') (SP X pins D) X.xe { z with heap := h3 } := by
      intro hs' l' hk
      induction hk with
      | nil =>
        intro ww h3 fl upx
        refine wpAny_handleBy_nil ?_
        obtain ⟨_, _, _, oe, vs, T, _, _, he, _, hd, h1, _⟩ := id fl
        unfold PySem.passOn
        refine wpAny_bind (wpAny_field he hd h1 ?_)
        rw [if_neg (by simp : ¬ ((Value.ref T == Value.none) = true))]
        have fin : wpAny (model X.prog X.w) X.A (setFlight (.ref a) X.env.frame) (fun _ s4 => wpAny (model X.prog X.w) X.A (throw (.ref a) : Sem Flow) (SP X pins D) X.xe s4) X.xe { z with heap := h3 } := by
          rw [fr]
          refine HandSPX.setFlight_upZ fl fun h4 held u4 => wpAny_throw (tk _ _ ⟨a, B, sI, pins, τ, I, cls, d, rfl, Ji, nb, upx.trans u4, .inr (.inr ?_), na, eo, ag, ww⟩)
          rw [st]
          exact held
        first
          | exact wpAny_bind fin
          | exact wpAny_bind (wpAny_pure (wpAny_bind fin))
      | @cons x n c i ts b0 su np' hp' hs2 l2 hi hl hc hsu r ih =>
        intro ww h3 fl upx
        obtain ⟨b, m1, my, mn⟩ := ww
        have m1 := exm1_of m1
        have J3 : Inv X pins τ I { z with heap := h3 } := Ji.landed nb fl.1 upx eo ag
        obtain ⟨o3, v3, e3, z3, d3⟩ := fl.there
        have Jh := hot_in J3 a
        have LT : PySem.W.Looks (model X.prog X.w) h3 (typeOf (.ref a)) cls := fun A Q E s k y => wpAny_typeOf_ref (k _ _ e3) (by rw [z3.1]; exact y)
        refine wpAny_handleBy_cons (codeAny_handlers_test ?_) (fun y => nomatch y)
        have LM := PySem.W.exm_one (M := model X.prog X.w) J3.kIn LT m1
        have ask : ∀ {Q : Value → Shared → Prop} {E : Value → Shared → Prop}, Q c { z with heap := h3 } → wpAny (model X.prog X.w) (X.A.mark (some (.ref a))) (eval (.Name x np') X.env) Q E { z with heap := h3 } := fun {Q E} y => by
          obtain ⟨g1, g2, g3 | ⟨g3, g4, g5⟩⟩ := hc
          · exact ld_glob (X := hotX X a) Jh g1 g3 y g2
          · exact ld_blt (X := hotX X a) Jh g1 g3 g4 y g5 g2
        refine ask (LM.here ?_)
        cases b with
        | false =>
          show wpAny _ X.A (handleBy (.ref a) X.env hs2) _ _ _
          exact ih (mn rfl) h3 fl upx
        | true =>
          obtain ⟨C, ec, my⟩ := my rfl
          refine codeAny_handlers_suite_as ?_
          refine HandSPX.lands_againZ fl fun h4 fl4 u4 => ?_
          have J4 : Inv X pins τ I { z with heap := h4 } := Ji.landed nb fl4.1 (upx.trans u4) eo ag
          obtain ⟨o4, v4, e4, z4, d4⟩ := fl4.there
          have J5 := hot_in (hold_in J4 e4 (z4.1.trans ec) z4.2 d4 na nl n0 np) a
          refine store_ok (X := hotX X a) (v := .ref a) J5 nd hi (.inl hl) rfl (fun s5 J6 => ?_) (.inr hl)
          refine wpAny_mono ((hsu a).run pins s5 _ _ _ J6 (my a na)) (fun f s6 r6 => ?_) fun _ _ y => y.elim
          have out : ∀ {τ6 : L2.St} {I6 : Hp} {Q : Shared → Prop}, Inv (hotX X a) pins τ6 I6 s6 → (∀ s7, Inv X pins (τ6.set i none) I6 s7 → Q s7) → wpAny (model X.prog X.w) X.A (do bindName X.env n .none; unbindBehindTheSuite X.env n hp') (fun _ s7 => Q s7) X.xe s6 :=
            fun {_ _ _} S6 y => gone_ok (hot_out ok S6) nd hi hl y
          cases f with
          | next =>
            obtain ⟨τ6, I6, S6, r6⟩ := r6
            exact out S6 fun s7 J7 => ⟨_, _, J7, r6⟩
          | brk =>
            obtain ⟨τ6, I6, S6, r6⟩ := r6
            exact out S6 fun s7 J7 => ⟨_, _, J7, r6⟩
          | cont =>
            obtain ⟨τ6, I6, S6, r6⟩ := r6
            exact out S6 fun s7 J7 => ⟨_, _, J7, r6⟩
          | ret u =>
            obtain ⟨y6, τ6, I6, S6, ry, r6⟩ := r6
            exact out S6 fun s7 J7 => ⟨_, _, _, J7, ry, r6⟩
      | @consT x1 x2 x3 x4 n c1 c2 c3 c4 i kk ts b0 su p1 p2 p3 p4 np' hp' hs2 l2 hi hl hc1 hc2 hc3 hc4 hsu r ih =>
        intro ww h3 fl upx
        obtain ⟨b, m1, my, mn⟩ := ww
        have J3 : Inv X pins τ I { z with heap := h3 } := Ji.landed nb fl.1 upx eo ag
        obtain ⟨o3, v3, e3, z3, d3⟩ := fl.there
        have Jh := hot_in J3 a
        have LT : PySem.W.Looks (model X.prog X.w) h3 (typeOf (.ref a)) cls := fun A Q E s k y => wpAny_typeOf_ref (k _ _ e3) (by rw [z3.1]; exact y)
        refine wpAny_handleBy_cons (codeAny_handlers_test ?_) (fun y => nomatch y)
        have ask : ∀ {x : Str} {c : Value} {np' : Pos} {Q : Value → Shared → Prop} {E : Value → Shared → Prop}, Names X x c → Q c { z with heap := h3 } → wpAny (model X.prog X.w) (X.A.mark (some (.ref a))) (eval (.Name x np') X.env) Q E { z with heap := h3 } := fun {x c np' Q E} hc y => by
          obtain ⟨g1, g2, g3 | ⟨g3, g4, g5⟩⟩ := hc
          · exact ld_glob (X := hotX X a) Jh g1 g3 y g2
          · exact ld_blt (X := hotX X a) Jh g1 g3 g4 y g5 g2
        refine wpAny_Tuple_spliced ?_
        show wpAny _ _ (spliced [(false, eval (.Name x1 p1) X.env), (false, eval (.Name x2 p2) X.env), (false, eval (.Name x3 p3) X.env), (false, eval (.Name x4 p4) X.env)]) _ _ _
        refine Calls.spliced_cons (ask hc1 (Calls.spliced_cons (ask hc2 (Calls.spliced_cons (ask hc3 (Calls.spliced_cons (ask hc4 (Calls.spliced_nil ⟨by rw [sizeLine_eq]; show 4 ≤ 16777216; decide, ?_⟩))))))))
        have kp : ∀ b o, h3.get? b = some o → (h3.push { cls := .type "tuple", data := .seq [c1, c2, c3, c4].toArray }).get? b = some o := fun b o y => Heap.get?_push_of_some _ y
        have fl := fly_keeps fl kp
        have upx : sI.heap.UpToSlots (h3.push { cls := .type "tuple", data := .seq [c1, c2, c3, c4].toArray }) := upx.trans fun b o y _ => ⟨o.slots, kp _ _ y⟩
        have LM := PySem.W.exm_tup4 (M := model X.prog X.w) (J3.kIn.keeps kp) (LT.keeps kp) (Heap.get?_push_size _ rfl) m1
        refine LM.here ?_
        cases b with
        | false =>
          show wpAny _ X.A (handleBy (.ref a) X.env hs2) _ _ _
          exact ih (mn rfl) _ fl upx
        | true =>
          obtain ⟨C, ec, my⟩ := my rfl
          refine codeAny_handlers_suite_as ?_
          refine HandSPX.lands_againZ fl fun h4 fl4 u4 => ?_
          have J4 : Inv X pins τ I { z with heap := h4 } := Ji.landed nb fl4.1 (upx.trans u4) eo ag
          obtain ⟨o4, v4, e4, z4, d4⟩ := fl4.there
          have J5 := hot_in (hold_in J4 e4 (z4.1.trans ec) z4.2 d4 na nl n0 np) a
          refine store_ok (X := hotX X a) (v := .ref a) J5 nd hi (.inl hl) rfl (fun s5 J6 => ?_) (.inr hl)
          refine wpAny_mono ((hsu a).run pins s5 _ _ _ J6 (my a na)) (fun f s6 r6 => ?_) fun _ _ y => y.elim
          have out : ∀ {τ6 : L2.St} {I6 : Hp} {Q : Shared → Prop}, Inv (hotX X a) pins τ6 I6 s6 → (∀ s7, Inv X pins (τ6.set i none) I6 s7 → Q s7) → wpAny (model X.prog X.w) X.A (do bindName X.env n .none; unbindBehindTheSuite X.env n hp') (fun _ s7 => Q s7) X.xe s6 :=
            fun {_ _ _} S6 y => gone_ok (hot_out ok S6) nd hi hl y
          cases f with
          | next =>
            obtain ⟨τ6, I6, S6, r6⟩ := r6
            exact out S6 fun s7 J7 => ⟨_, _, J7, r6⟩
          | brk =>
            obtain ⟨τ6, I6, S6, r6⟩ := r6
            exact out S6 fun s7 J7 => ⟨_, _, J7, r6⟩
          | cont =>
            obtain ⟨τ6, I6, S6, r6⟩ := r6
            exact out S6 fun s7 J7 => ⟨_, _, J7, r6⟩
          | ret u =>
            obtain ⟨y6, τ6, I6, S6, ry, r6⟩ := r6
            exact out S6 fun s7 J7 => ⟨_, _, _, J7, ry, r6⟩
    exact go hh ww h3 fl (up.trans up3)
end
end RB
/-! The lifted layer: try, over data. -/
namespace RB
open PySem PySem.Spec PyProof.Rows L2
/-- the context in which an except suite runs -/
structure CxH (G : Glob) (X : Cx) (n : Nat) : Prop where
  hK : X.K = G.K
  hu : X.A.units + 64 < cLine
  h1 : X.A.units + 1 < cLine
  gd : X.A.guards = some []
section
variable {G : Glob} {X : Cx} {W : WX} {n : Nat}
theorem CxG.hot (C : CxG G X W n) (a : Addr) : CxH G (hotX X a) n := ⟨C.hK, C.hu, C.h1, C.gd⟩
theorem CxG.tr (C : CxG G X W n) {pn : List (Addr × Obj)} {xe : Value → Shared → Prop} {W' : WX} (t : Takes (X.tr pn xe) W') : CxG G (X.tr pn xe) W' n := ⟨C.hK, t, C.rm, C.gd, C.calm⟩
theorem EnvOk.unset {w : Wd} {σ : L2.St} {r : Rho} (k : EnvOk G w σ r) (i : Nat) : EnvOk G w (σ.set i none) (r.set i none) := by
  refine ⟨by simp [k.len], fun j d h => ?_⟩
  by_cases hj : i = j
  · subst hj
    by_cases hl : i < r.length
    · rw [List.getElem?_set_self hl] at h
      cases h
    · rw [List.getElem?_eq_none (by simpa using hl)] at h
      cases h
  · rw [List.getElem?_set_ne hj] at h ⊢
    exact k.at_ j d h
/-- a suite's end over data -/
def goneE (D : DE) (i : Nat) : DE := ⟨fun r S => D.nx (r.set i none) S, D.rt, fun r S => D.bk (r.set i none) S, fun r S => D.ct (r.set i none) S, fun _ _ _ => False⟩
def wPick : List ((String → Bool) × Nat × WS) → DE → Rho → EK
  | [], D, r, x, S => D.xc r x S
  | (t, i, ms) :: l, D, r, x, S => if t x.c = true then ms (goneE D i) (r.set i (some (.p (.obj x.c x.ns x.vs)))) S else wPick l D r x S
def wTry (mb : WS) (hs : List ((String → Bool) × Nat × WS)) : WS := fun D r S => mb { D with xc := fun r x S => wPick hs D r x S } r S
/-- the clauses, over data -/
inductive HdL (G : Glob) (X : Cx) : List ExceptHandler → List (List Value × Nat × TS) → List ((String → Bool) × Nat × WS) → Prop
  | nil : HdL G X [] [] []
  | cons {x nm : Str} {c : Value} {i : Nat} {t : String → Bool} {ms : WS} {b0 : Stmt} {su : List Stmt} {np hp : Pos} {hds : List ExceptHandler} {l : List (List Value × Nat × TS)} {hs : List ((String → Bool) × Nat × WS)} (hi : X.N[i]? = some nm) (hl : X.env.kindOf nm = some .local) (hc : Names X x c)
      (hx : ∀ y C, G.cls y = some C → PySem.W.exmOne X.K (.ref C) c = some (t y)) (hsu : ∀ a, RSs G (hotX X a) WF (b0 :: su) ms) (r : HdL G X hds l hs) : HdL G X (.ExceptHandler (some (.Name x np)) (some nm) (b0 :: su) hp :: hds) (([c], i, tMs G WF ms) :: l) ((t, i, ms) :: hs)
  | consT {x1 x2 x3 x4 nm : Str} {c1 c2 c3 c4 : Value} {i k : Nat} {t : String → Bool} {ms : WS} {b0 : Stmt} {su : List Stmt} {p1 p2 p3 p4 np hp : Pos} {hds : List ExceptHandler} {l : List (List Value × Nat × TS)} {hs : List ((String → Bool) × Nat × WS)} (hi : X.N[i]? = some nm) (hl : X.env.kindOf nm = some .local) (h1 : Names X x1 c1) (h2 : Names X x2 c2) (h3 : Names X x3 c3) (h4 : Names X x4 c4)
      (hx : ∀ y C, G.cls y = some C → PySem.W.exmAny X.K (.ref C) [c1, c2, c3, c4] = some (t y)) (hsu : ∀ a, RSs G (hotX X a) WF (b0 :: su) ms) (r : HdL G X hds l hs) : HdL G X (.ExceptHandler (some (.Tuple [.Name x1 p1, .Name x2 p2, .Name x3 p3, .Name x4 p4] k np)) (some nm) (b0 :: su) hp :: hds) (([c1, c2, c3, c4], i, tMs G WF ms) :: l) ((t, i, ms) :: hs)
theorem HdL.low {hds : List ExceptHandler} {l : List (List Value × Nat × TS)} {hs : List ((String → Bool) × Nat × WS)} (h : HdL G X hds l hs) : HdX X hds l := by
  induction h with
  | nil => exact .nil
  | cons hi hl hc _ hsu _ ih => exact .cons hi hl hc (fun a => (hsu a).ps) ih
  | consT hi hl h1 h2 h3 h4 _ hsu _ ih => exact .consT hi hl h1 h2 h3 h4 (fun a => (hsu a).ps) ih
theorem goneE_le {D D' : DE} (l : DE.le D D') (i : Nat) : DE.le (goneE D i) (goneE D' i) := ⟨fun _ _ q => l.nx _ _ q, l.rt, fun _ _ q => l.bk _ _ q, fun _ _ q => l.ct _ _ q, fun _ _ _ q => q⟩
theorem HdL.mono {hds : List ExceptHandler} {l : List (List Value × Nat × TS)} {hs : List ((String → Bool) × Nat × WS)} (h : HdL G X hds l hs) {D D' : DE} (le : DE.le D D') {r : Rho} {x : Exc} {S : Store} : wPick hs D r x S → wPick hs D' r x S := by
  induction h with
  | nil => exact fun q => le.xc _ _ _ q
  | cons _ _ _ _ hsu _ ih =>
    intro q
    unfold wPick at q ⊢
    split at q
    · rename_i e
      rw [if_pos e]
      exact (hsu 0).mono _ _ _ _ (goneE_le le _) q
    · rename_i e
      rw [if_neg e]
      exact ih q
  | consT _ _ _ _ _ _ _ hsu _ ih =>
    intro q
    unfold wPick at q ⊢
    split at q
    · rename_i e
      rw [if_pos e]
      exact (hsu 0).mono _ _ _ _ (goneE_le le _) q
    · rename_i e
      rw [if_neg e]
      exact ih q
theorem HdL.pick {hds : List ExceptHandler} {l : List (List Value × Nat × TS)} {hs : List ((String → Bool) × Nat × WS)} (h : HdL G X hds l hs) {D : Ends} {w : Wd} {H : Hp} {r : Rho} {x : Exc} {S : Store} : wPick hs (lowE G w H W D) r x S → Sx G w H (wHd X.K W D l) r x S := by
  induction h with
  | nil => exact fun q => q
  | @cons xn nm c i t ms b0 su np hp hds l hs hi hl hc hx hsu _ ih =>
    intro q σ cls dd w1 H1 x1 k1 en rx
    obtain ⟨e1, e0, e2⟩ := id rx
    obtain ⟨C, hC, ec⟩ := Option.map_eq_some_iff.mp e1
    subst ec
    unfold wPick at q
    refine ⟨t x.c, exm1 (hx _ _ hC), fun y => ?_, fun y => ?_⟩
    · rw [if_pos y] at q
      refine ⟨C, rfl, fun a na => ?_⟩
      obtain ⟨k2, x2⟩ := k1.alloc (o := xob a C dd) na
      refine ⟨_, S, r.set i (some (.p (.obj x.c x.ns x.vs))), k2, EnvOk.set (en.mono x2) ?_ i, (hsu 0).mono (goneE (lowE G w H W D) i) _ _ _ ⟨fun r2 S2 z τ w3 H3 x3 k3 en3 => ?_, fun d S2 z => Qv.ext (x1.trans x2) z, fun r2 S2 z τ w3 H3 x3 k3 en3 => ?_, fun r2 S2 z τ w3 H3 x3 k3 en3 => ?_, fun _ _ _ z => False.elim z⟩ q⟩
      · show Rep G _ (.ref a) (.obj x.c x.ns x.vs)
        simp only [Rep]
        rcases e2 with ⟨d1, n1, v1⟩ | ⟨d, fs, d1, hd, n1, v1⟩
        · exact ⟨a, C, [], rfl, hC, .inr ⟨e0, dd, upd_same, .inl ⟨d1, rfl⟩⟩, by rw [n1]; rfl, by rw [v1]; exact Reps.nil⟩
        · exact ⟨a, C, fs, rfl, hC, .inr ⟨e0, dd, upd_same, .inr ⟨d, d1, x2.I _ _ hd⟩⟩, n1, v1.mono x2.I⟩
      · exact z _ w3 H3 ((x1.trans x2).trans x3) k3 (en3.unset i)
      · exact z _ w3 H3 ((x1.trans x2).trans x3) k3 (en3.unset i)
      · exact z _ w3 H3 ((x1.trans x2).trans x3) k3 (en3.unset i)
    · rw [if_neg (by rw [y]; decide)] at q
      exact ih q σ (.ref C) dd w1 H1 x1 k1 en rx
  | @consT x1 x2 x3 x4 nm c1 c2 c3 c4 i kk t ms b0 su p1 p2 p3 p4 np hp hds l hs hi hl h1 h2 h3 h4 hx hsu _ ih =>
    intro q σ cls dd w1 H1 x1 k1 en rx
    obtain ⟨e1, e0, e2⟩ := id rx
    obtain ⟨C, hC, ec⟩ := Option.map_eq_some_iff.mp e1
    subst ec
    unfold wPick at q
    refine ⟨t x.c, hx _ _ hC, fun y => ?_, fun y => ?_⟩
    · rw [if_pos y] at q
      refine ⟨C, rfl, fun a na => ?_⟩
      obtain ⟨k2, x2⟩ := k1.alloc (o := xob a C dd) na
      refine ⟨_, S, r.set i (some (.p (.obj x.c x.ns x.vs))), k2, EnvOk.set (en.mono x2) ?_ i, (hsu 0).mono (goneE (lowE G w H W D) i) _ _ _ ⟨fun r2 S2 z τ w3 H3 x3 k3 en3 => ?_, fun d S2 z => Qv.ext (x1.trans x2) z, fun r2 S2 z τ w3 H3 x3 k3 en3 => ?_, fun r2 S2 z τ w3 H3 x3 k3 en3 => ?_, fun _ _ _ z => False.elim z⟩ q⟩
      · show Rep G _ (.ref a) (.obj x.c x.ns x.vs)
        simp only [Rep]
        rcases e2 with ⟨d1, n1, v1⟩ | ⟨d, fs, d1, hd, n1, v1⟩
        · exact ⟨a, C, [], rfl, hC, .inr ⟨e0, dd, upd_same, .inl ⟨d1, rfl⟩⟩, by rw [n1]; rfl, by rw [v1]; exact Reps.nil⟩
        · exact ⟨a, C, fs, rfl, hC, .inr ⟨e0, dd, upd_same, .inr ⟨d, d1, x2.I _ _ hd⟩⟩, n1, v1.mono x2.I⟩
      · exact z _ w3 H3 ((x1.trans x2).trans x3) k3 (en3.unset i)
      · exact z _ w3 H3 ((x1.trans x2).trans x3) k3 (en3.unset i)
      · exact z _ w3 H3 ((x1.trans x2).trans x3) k3 (en3.unset i)
    · rw [if_neg (by rw [y]; decide)] at q
      exact ih q σ (.ref C) dd w1 H1 x1 k1 en rx
theorem rs_try {body : List Stmt} {h0 : ExceptHandler} {hds : List ExceptHandler} {l : List (List Value × Nat × TS)} {hs : List ((String → Bool) × Nat × WS)} {mb : WS} {pos : Pos} (C : CxG G X W n) (st : X.stack = X.env :: X.outer) (fr : X.env.frame = some X.env.locals) (nx : X.ex = []) (nd : X.N.Nodup)
    (hb : ∀ (W' : WX) (pn : List (Addr × Obj)) (xe : Value → Shared → Prop), CxG G (X.tr pn xe) W' n → PassesOwn (model X.prog X.w) X.A X.env xe → RSs G (X.tr pn xe) W' body mb) (hm : MonS mb) (hh : HdL G X (h0 :: hds) l hs) :
    RS G X W (.Try body (h0 :: hds) [] [] pos) (wTry mb hs) := by
  refine ⟨PS.imp (ps_tryX (tb := fun W' => tMs G W' mb) st fr nx nd C.tk (fun W' pn xe t p => (hb W' pn xe (C.tr t) p).ps) hh.low) fun D σ H ⟨w, S, r, ok, en, q⟩ => ?_, fun D D' r S le q => ?_⟩
  · exact ⟨w, S, r, ok, en, hm { lowE G w H W D with xc := fun r x S => wPick hs (lowE G w H W D) r x S } _ _ _ ⟨fun _ _ z => z, fun _ _ z => z, fun _ _ z => z, fun _ _ z => z, fun _ _ _ z => hh.pick z⟩ q⟩
  · exact hm { D with xc := fun r x S => wPick hs D r x S } _ _ _ ⟨le.nx, le.rt, le.bk, le.ct, fun _ _ _ z => hh.mono le z⟩ q
end
end RB
/-! The lifted layer: fields of things, isinstance by the program's classes. -/
namespace RB
open PySem PySem.Spec PyProof.Rows L2
def flook : List Str → List P → Str → Option P
  | k :: ks, v :: vs, f => if f = k then some v else flook ks vs f
  | _, _, _ => none
theorem flook_ok {G : Glob} {I : Hp} : ∀ {fs : List (Str × V)} {ns : List Str} {ds : List P} {f : Str} {p : P}, fs.map (·.1) = ns → Reps G I (fs.map (·.2)) ds → flook ns ds f = some p → ∃ v, fs.lookup f = some v ∧ Rep G I v p
  | [], ns, ds, f, p, e, r, q => by
    subst e
    cases q
  | (k, v) :: fs, ns, ds, f, p, e, r, q => by
    subst e
    cases ds with
    | nil => simp only [List.map_cons, Reps] at r; cases r
    | cons d ds =>
      simp only [List.map_cons, Reps] at r
      obtain ⟨v', r', e', r1, r2⟩ := r
      cases e'
      simp only [List.map_cons, flook] at q
      by_cases h : f = k
      · rw [if_pos h] at q
        cases q
        exact ⟨v, by simp [List.lookup, h], r1⟩
      · rw [if_neg h] at q
        obtain ⟨v2, l2, r3⟩ := flook_ok rfl r2 q
        exact ⟨v2, by simp [List.lookup, show (f == k) = false from beq_eq_false_iff_ne.mpr h, l2], r3⟩
/-- the fields of a thing: its class, their names and values -/
def objOf (S : Store) : D → Option (String × List Str × List P)
  | .p (.obj c ns vs) => some (c, ns, vs)
  | .cell n => match S[n]? with
    | some (.obj c ns vs) => some (c, ns, vs)
    | _ => none
  | _ => none
section
variable {G : Glob} {X : Cx} {W : WX} {e : Expr} {pos : Pos} {f : Str}
theorem objOf_at {w : Wd} {S : Store} {H : Hp} (k : Wok G w S H) {v : V} {d : D} {c : String} {ns : List Str} {vs : List P} (r : RepD G w v d) (q : objOf S d = some (c, ns, vs)) : ∃ a C fs, v = .ref a ∧ G.cls c = some C ∧ ObjAt (G.isE c) H a C fs ∧ fs.map (·.1) = ns ∧ Reps G H (fs.map (·.2)) vs := by
  cases d with
  | p d =>
    cases d <;> simp only [objOf] at q <;> cases q
    have r : Rep G w.I v (.obj c ns vs) := r
    simp only [Rep] at r
    obtain ⟨a, C, fs, e1, e2, e3, e4, e5⟩ := r
    exact ⟨a, C, fs, e1, e2, e3.mono k.sub, e4, e5.mono k.sub⟩
  | fn => simp [objOf] at q
  | cell n =>
    obtain ⟨a, rfl, ha⟩ := r
    obtain ⟨z, hz, ok⟩ := k.idx ha
    simp only [objOf, hz] at q
    cases z with
    | obj c' ns' vs' =>
      cases q
      obtain ⟨_, x0, C, dx, fs, e1, e2, e3, e4⟩ := ok
      exact ⟨a, C, fs, rfl, e1, .inl ⟨x0, dx, e2⟩, e3, e4.mono k.sub⟩
    | lst _ => cases q
    | dK _ _ => cases q
    | dead => cases q
/-- d.f, where no class of the list has the name itself -/
def dAttr (cs : List String) (f : Str) (d : D) (S : Store) (Q : DK) : Prop := match objOf S d with
  | some (c, ns, vs) => c ∈ cs ∧ ∃ p, flook ns vs f = some p ∧ Q (.p p) S
  | none => False
/-- what a class must be, so that its things' field f is read -/
def AtC (G : Glob) (K : PySem.W.Frag) (c : String) (C : Addr) (f : Str) : Prop := PySem.W.findIn K (.ref C) f = some none ∧ ((G.isE c = true → XfC K C) ∧ (G.isE c = false → Cls K C))
def wAttr (cs : List String) (f : Str) (m : WE) : WE := wUn (dAttr cs f) m
theorem dAttr_mono (cs : List String) (f : Str) (d : D) (S : Store) (Q Q' : DK) (hq : ∀ d S, Q d S → Q' d S) (h : dAttr cs f d S Q) : dAttr cs f d S Q' := by
  unfold dAttr at h ⊢
  split at h
  · obtain ⟨h1, p, h2, h3⟩ := h
    exact ⟨h1, p, h2, hq _ _ h3⟩
  · exact h.elim
theorem re_attr {cs : List String} {m : WE} (ha : ∀ c ∈ cs, ∀ C, G.cls c = some C → AtC G X.K c C f) (he : RE G X W e m) (hb : attributeBase e f X.env (eval e X.env) = eval e X.env := by rfl) : RE G X W (.Attribute e f pos) (wAttr cs f m) := by
  refine ⟨⟨fun pins s σ H Q J ⟨w, S, r, ok, en, q⟩ => ?_⟩, fun r S Q Q' E E' hq hE h => he.mono r S _ _ _ _ (fun d S1 z => dAttr_mono _ _ _ _ _ _ hq z) hE h⟩
  refine attr_of hb ?_
  have h1 : tM G W m σ H fun v H1 => ∃ a C fs p u, v = .ref a ∧ ObjAt (G.isE p) H1 a C fs ∧ AtC G X.K p C f ∧ fs.lookup f = some u ∧ Q u H1 := by
    refine tM.bind he.mono ok en q (fun _ _ _ z => z) fun d S1 v w1 H1 x1 k1 r1 z => ?_
    unfold dAttr at z
    split at z
    · rename_i c ns vs hz
      obtain ⟨hc, p, hp, z⟩ := z
      cases d with
      | p d =>
        cases d <;> simp only [objOf] at hz <;> cases hz
        have r2 : Rep G w1.I v (.obj c ns vs) := r1
        simp only [Rep] at r2
        obtain ⟨a2, C2, fs2, e1', e2', e3', e4', e5'⟩ := r2
        obtain ⟨u, hu, ru⟩ := flook_ok e4' e5' hp
        exact ⟨a2, C2, fs2, c, u, e1', e3'.mono k1.sub, ha c hc C2 e2', hu, z u w1 H1 x1 k1 ru⟩
      | fn => simp [objOf] at hz
      | cell n =>
        obtain ⟨a, rfl, hA⟩ := r1
        obtain ⟨y, hy, okc⟩ := k1.idx hA
        simp only [objOf, hy] at hz
        cases y with
        | obj c' ns' vs' =>
          cases hz
          obtain ⟨_, hx, C, dx, fs, e1, e2, e3, e4⟩ := okc
          obtain ⟨u, hu, ru⟩ := flook_ok e3 e4 hp
          exact ⟨a, C, fs, c, u, rfl, .inl ⟨hx, dx, e2⟩, ha c hc C e1, hu, z u w1 H1 x1 k1 ru⟩
        | lst _ => cases hz
        | dK _ _ => cases hz
        | dead => cases hz
    · exact z.elim
  refine thn (he.pe.run pins s σ H _ J h1) fun u s1 ⟨x, H1, J1, rx, a, C, fs, p, v, ex, ob, at_, l, q⟩ => ?_
  subst ex
  obtain rfl : u = Value.ref a := rx
  rcases ob with ⟨y, dx, ea⟩ | ⟨y, dd, ea, z⟩
  · exact getattr_ok J1 ea (at_.2.2 y) at_.1 l fun u' s2 J2 ru => ⟨v, H1, J2, ru, q⟩
  · have T := at_.2.1 y
    obtain ⟨⟨oe, vs, hg, hc, hd, hv⟩, _⟩ := J1.hok a _ ea
    rcases z with ⟨_, rfl⟩ | ⟨d, rfl, hdx⟩
    · cases l
    · obtain ⟨mA, hns, hr⟩ := J1.hok d _ hdx
      obtain ⟨od, ho, hl⟩ := lookIn_ns hns
      obtain ⟨u, hu, ru⟩ := RelO.some_of (v := v) (o := mA f) (by rw [← l]; exact hr f)
      have In : PySem.W.InstAt s1.heap a oe C (some od) := ⟨hg, hc, by unfold PySem.W.notCls; rw [hv] <;> rfl, by rw [hd]; exact ho⟩
      exact HandSPX.exc_get J1.kIn In T.ga T.gg T.exC (PySem.W.findObj_own T.hdC at_.1 rfl (by rw [hl, hu])) (handed_of ru) ⟨v, H1, J1.tok _, ru, q⟩
/-- the name of a value's class -/
def tyN (S : Store) (d : D) : Option String := match objOf S d with
  | some (c, _, _) => some c
  | none => tyS S d
/-- what a class must be, so that isinstance asks its things rightly -/
structure IsC (K : PySem.W.Frag) (C : Addr) : Prop where
  cl : (PySem.W.clsIn K C).isSome = true
  gg : PySem.W.findIn K (.ref C) "__getattr__" = some none
  ca : PySem.W.findIn K (.ref C) "__class__" = some (some (.builtin "object.__class__"))
  sp : PySem.W.specialIn K (.builtin "object.__class__") "__get__" = some (some (.builtin "getset_descriptor.__get__"))
  tk : PySem.W.takesIn K (.builtin "object.__class__") = some true
  mo : PySem.W.mroIn K C (.type "object") = some true
/-- isinstance(d, T): t tells it by the name of d's class -/
def dIsK (ts : List String) (t : String → Bool) (d : D) (S : Store) (Q : DK) : Prop := match tyN S d with
  | some c => c ∈ ts ∧ Q (.p (.bl (t c))) S
  | none => False
theorem dIsK_mono (ts : List String) (t : String → Bool) (d : D) (S : Store) (Q Q' : DK) (hq : ∀ d S, Q d S → Q' d S) (h : dIsK ts t d S Q) : dIsK ts t d S Q' := by
  unfold dIsK at h ⊢
  split at h
  · exact ⟨h.1, hq _ _ h.2⟩
  · exact h.elim
/-- what a row knows, so that isinstance(.., T) is told by t -/
structure IsT (G : Glob) (K : PySem.W.Frag) (ts : List String) (u : Value) (t : String → Bool) : Prop where
  own : ∀ c ∈ ts, ∀ C, G.cls c = some C → IsC K C ∧ (G.isE c = true → XfC K C) ∧ (G.isE c = false → Cls K C) ∧ PySem.W.kitOne K (.ref C) u = some (t c)
  blt : ∀ c ∈ ts, c ∈ ["NoneType", "bool", "int", "str", "tuple", "list", "dict"] → PySem.W.kitOne K (.type c) u = some (t c)
theorem re_isK {ts : List String} {t : String → Bool} {m : WE} {p p1 : Pos} {x : Str} {u : Value} {uv : V} (hK : X.K = G.K) (T : IsT G X.K ts u t) (hu : ClsV uv u) (he : RE G X W e m) (hx : PE X (.Name x p1) (tC uv)) (hg : Gl X "isinstance") (hm : X.mg "isinstance" = none)
    (hs : starEach [e, .Name x p1] X.env = (false, eval e X.env) :: starEach [.Name x p1] X.env := by rfl) : RE G X W (.Call (.Name "isinstance" p) [e, .Name x p1] [] pos) (wUn (dIsK ts t) m) := by
  have call_k : CallR X (.builtin "isinstance") (fun xs H Q => ∃ (y : V) (c : String), xs = [y, uv] ∧ c ∈ ts ∧ ((∃ a C fs, y = .ref a ∧ G.cls c = some C ∧ ObjAt (G.isE c) H a C fs) ∨ TyX X.K H y (.type c) ∧ c ∈ ["NoneType", "bool", "int", "str", "tuple", "list", "dict"]) ∧ Q (.bl (t c)) H) := by
    intro pins s σ H xs us Q J rx h
    obtain ⟨y, c, rfl, hc, z, q⟩ := h
    cases rx with
    | cons r1 rr =>
      cases rr with
      | cons r2 rr =>
        cases rr
        have ec := hu.eq r2
        subst ec
        have fin : ∀ tk, EP X pins σ Q (.bool (t c)) { s with toks := tk } := fun tk => ⟨.bl (t c), H, J.tok _, rfl, q⟩
        rcases z with ⟨a, C, fs, rfl, hC, ob⟩ | ⟨ty, hm⟩
        · cases (show _ = Value.ref a from r1)
          obtain ⟨k0, k1, k2, k3⟩ := T.own c hc C hC
          rcases ob with ⟨y, dx, ea⟩ | ⟨y, dd, ea, fz⟩
          · exact isinst_ok (x := .ref a) J rfl (.ins ea (k2 y) k0.ca k0.sp k0.tk k0.mo) k3 fin
          · have T1 := k1 y
            obtain ⟨⟨oe, vs, hg, hcl, hd, hv⟩, _⟩ := J.hok a _ ea
            have kx := fun od => PySem.W.kitx_exc (x := a) (ox := oe) (od := od) k0.cl T1.ga T1.gg T1.exC k0.ca k0.sp k0.tk k0.mo
            have nc : PySem.W.notCls oe = true := by
              unfold PySem.W.notCls
              rw [hv]
            rcases fz with ⟨rfl, _⟩ | ⟨d, rfl, hdx⟩
            · exact PySem.W.kia_one (kx none) J.kIn ⟨hg, hcl, nc, by rw [hd]; trivial⟩ k3 (fun z => nomatch z) fin
            · obtain ⟨mA, hns, hr⟩ := J.hok d _ hdx
              obtain ⟨od, ho, hl⟩ := lookIn_ns hns
              exact PySem.W.kia_one (kx (some od)) J.kIn ⟨hg, hcl, nc, by rw [hd]; exact ho⟩ k3 (fun z => nomatch z) fin
        · obtain ⟨P, k1, k2, k3⟩ := kit_of J r1 ty
          exact PySem.W.kia_one k1 J.kIn k2 (T.blt c hc hm) k3 fin
  refine ⟨PE.imp (pe_callB call_k hg hm (by decide +kernel) (pa_cons he.pe (pa_cons hx pa_nil) hs) (he := hs)) fun σ H Q ⟨w, S, ρ, ok, en, q⟩ => ?_, fun r S Q Q' E E' hq hE h => he.mono r S _ _ _ _ (fun d S1 z => dIsK_mono _ _ _ _ _ _ hq z) hE h⟩
  refine tM.bind he.mono ok en q (fun _ _ _ z => z) fun d S1 y w1 H1 x1 k1 r1 q1 => ?_
  refine ⟨y, ?_⟩
  unfold dIsK at q1
  split at q1
  · rename_i c hc
    unfold tyN at hc
    split at hc
    · rename_i c' ns vs ho
      cases hc
      obtain ⟨a, C, fs, e1, e2, e3, _⟩ := objOf_at k1 r1 ho
      exact ⟨c, rfl, q1.1, .inl ⟨a, C, fs, e1, e2, e3⟩, q1.2 (.bl (t c)) w1 H1 x1 k1 (rep_bl.mpr rfl)⟩
    · exact ⟨c, rfl, q1.1, .inr ⟨tyS_ok hK.symm k1 r1 hc, tyS_mem hc⟩, q1.2 (.bl (t c)) w1 H1 x1 k1 (rep_bl.mpr rfl)⟩
  · exact q1.elim
end
end RB
/-! The lifted layer: several names bound at once. -/
namespace RB
open PySem PySem.Spec PyProof.Rows L2
section
variable {G : Glob} {X : Cx} {W : WX} {e : Expr} {pos : Pos} {m : WE} {ma : WA}
def wPar2 (i j : Nat) (ma : WA) : WS := fun D r S => ma r S (fun ds S1 => match ds with
  | [d1, d2] => D.nx ((r.set i (some d1)).set j (some d2)) S1
  | _ => False) (D.xc r)
def wPar3 (i j l : Nat) (ma : WA) : WS := fun D r S => ma r S (fun ds S1 => match ds with
  | [d1, d2, d3] => D.nx (((r.set i (some d1)).set j (some d2)).set l (some d3)) S1
  | _ => False) (D.xc r)
theorem RepDs.two {w : Wd} {vs : List V} {d1 d2 : D} (h : RepDs G w vs [d1, d2]) : ∃ v1 v2, vs = [v1, v2] ∧ RepD G w v1 d1 ∧ RepD G w v2 d2 := by
  match vs, h with
  | [v1, v2], ⟨h1, h2, _⟩ => exact ⟨v1, v2, rfl, h1, h2⟩
theorem RepDs.three {w : Wd} {vs : List V} {d1 d2 d3 : D} (h : RepDs G w vs [d1, d2, d3]) : ∃ v1 v2 v3, vs = [v1, v2, v3] ∧ RepD G w v1 d1 ∧ RepD G w v2 d2 ∧ RepD G w v3 d3 := by
  match vs, h with
  | [v1, v2, v3], ⟨h1, h2, h3, _⟩ => exact ⟨v1, v2, v3, rfl, h1, h2, h3⟩
theorem rs_par2 {i j : Nat} {x y : Str} {a b : Expr} {px py pt : Pos} {kt k2 pt2} (hc : X.calm = true) (hN : X.N.Nodup) (hi : X.N[i]? = some x) (hj : X.N[j]? = some y) (hij : i ≠ j) (hx : X.env.scope.names.lookup x = some .local) (hy : X.env.scope.names.lookup y = some .local) (ha : RA G X W [a, b] ma)
    (hw : swappedStores [.Tuple [.Name x px, .Name y py] kt pt] (.Tuple [a, b] k2 pt2) X.env = pure (some [x, y]) := by rfl) (hs : swapsWithSole [.Tuple [.Name x px, .Name y py] kt pt] (.Tuple [a, b] k2 pt2) pos.line X.env = pure false := by rfl) :
    RS G X W (.Assign [.Tuple [.Name x px, .Name y py] kt pt] (.Tuple [a, b] k2 pt2) pos) (wPar2 i j ma) := by
  refine ⟨PS.imp (ps_par hc hN hi hj hij hx hy ha.pe hw hs) fun D σ H ⟨w, S, r, ok, en, q⟩ => ?_, fun D D' r S l q => ha.mono _ _ _ _ _ _ (fun ds S1 z => ?_) (l.xc r) q⟩
  · refine ⟨w, S, r, ok, en, ha.mono r S _ _ _ _ (fun ds S1 z vs w1 H1 x1 k1 rs => ?_) (fun y S' z => z.at_ en) q⟩
    split at z
    · obtain ⟨v1, v2, rfl, r1, r2⟩ := rs.two
      exact ⟨v1, v2, rfl, z _ w1 H1 x1 k1 (((en.mono x1).set r1 i).set r2 j)⟩
    · exact z.elim
  · split at z
    · exact l.nx _ _ z
    · exact z.elim
theorem rs_par3 {i j l : Nat} {x y z : Str} {a b c : Expr} {px py pz pt : Pos} {kt k2 pt2} (hc : X.calm = true) (hN : X.N.Nodup) (hi : X.N[i]? = some x) (hj : X.N[j]? = some y) (hl : X.N[l]? = some z) (hij : i ≠ j) (hil : i ≠ l) (hjl : j ≠ l)
    (hx : X.env.scope.names.lookup x = some .local) (hy : X.env.scope.names.lookup y = some .local) (hz : X.env.scope.names.lookup z = some .local) (ha : RA G X W [a, b, c] ma)
    (hw : swappedStores [.Tuple [.Name x px, .Name y py, .Name z pz] kt pt] (.Tuple [a, b, c] k2 pt2) X.env = pure (some [x, y, z]) := by rfl) (hs : swapsWithSole [.Tuple [.Name x px, .Name y py, .Name z pz] kt pt] (.Tuple [a, b, c] k2 pt2) pos.line X.env = pure false := by rfl) :
    RS G X W (.Assign [.Tuple [.Name x px, .Name y py, .Name z pz] kt pt] (.Tuple [a, b, c] k2 pt2) pos) (wPar3 i j l ma) := by
  refine ⟨PS.imp (ps_par3 hc hN hi hj hl hij hil hjl hx hy hz ha.pe hw hs) fun D σ H ⟨w, S, r, ok, en, q⟩ => ?_, fun D D' r S le q => ha.mono _ _ _ _ _ _ (fun ds S1 u => ?_) (le.xc r) q⟩
  · refine ⟨w, S, r, ok, en, ha.mono r S _ _ _ _ (fun ds S1 u vs w1 H1 x1 k1 rs => ?_) (fun y S' u => u.at_ en) q⟩
    split at u
    · obtain ⟨v1, v2, v3, rfl, r1, r2, r3⟩ := rs.three
      exact ⟨v1, v2, v3, rfl, u _ w1 H1 x1 k1 ((((en.mono x1).set r1 i).set r2 j).set r3 l)⟩
    · exact u.elim
  · split at u
    · exact le.nx _ _ u
    · exact u.elim
/-- the items of a sequence that is unpacked -/
def seqD (S : Store) : D → Option (List P)
  | .p (.tup ps) => some ps
  | .p (.lst ps) => some ps
  | .cell n => match S[n]? with
    | some (.lst ps) => some ps
    | _ => none
  | _ => none
def wAsgT (is : List Nat) (m : WE) : WS := fun D r S => m r S (fun d S1 => match seqD S1 d with
  | some ps => ps.length = is.length ∧ D.nx (setAll is ps r) S1
  | none => False) (D.xc r)
theorem rs_asgT {is : List Nat} {es : List Expr} {k : Nat} {tp : Pos} (hK : X.K = G.K) (hc : X.calm = true) (he : RE G X W e m) (hg : PGs X es (gNames is)) (hn : (assignEach es X.env).length = is.length := by rfl) (hst : (assignEach es X.env).findIdx? (·.1) = none := by rfl)
    (hs : swapsWithSole [.Tuple es k tp] e pos.line X.env = pure false := by rfl) (hw : swappedStores [.Tuple es k tp] e X.env = pure none := by rfl) (h1 : (assignEach [.Tuple es k tp] X.env).map (·.2) = [assign (.Tuple es k tp) X.env] := by rfl) :
    RS G X W (.Assign [.Tuple es k tp] e pos) (wAsgT is m) := by
  have pg : PG X (.Tuple es k tp) (fun v σ H Q => gTup X.K is.length (gNames is) v σ H Q ∨ gLst X.K is.length (gNames is) v σ H Q) := by
    refine ⟨fun pins s σ H v u Q J r h => ?_⟩
    rcases h with h | h
    · exact (pg_tup (pos := tp) hc hg hn hst).run pins s σ H v u Q J r h
    · exact (pg_lst (pos := tp) hc hg hn hst).run pins s σ H v u Q J r h
  refine ⟨PS.imp (ps_asg he.pe pg hs hw h1) fun D σ H ⟨w, S, r, ok, en, q⟩ => ?_, fun D D' r S l q => he.mono _ _ _ _ _ _ (fun d S1 z => ?_) (l.xc r) q⟩
  · refine tM.low he.mono ok en q fun d S1 v w1 H1 x1 k1 rd z => ?_
    split at z
    · rename_i ps hp
      obtain ⟨l, z⟩ := z
      have fin : ∀ {vs : List V}, Reps G w1.I vs ps → gNames is vs σ H1 D.nx := fun {vs} rs => gNames_ok rs l (en.mono x1) fun σ' en' _ => z σ' w1 H1 x1 k1 en'
      cases d with
      | p d =>
        cases d <;> simp only [seqD] at hp <;> cases hp
        · obtain ⟨a, vs, rfl, y, rs⟩ := rep_tup.mp rd
          exact .inl ⟨a, vs, rfl, by rw [hK]; exact Same.tup k1.sub y, by rw [rs.length]; exact l, fin rs⟩
        · have rd : Rep G w1.I v (.lst ps) := rd
          simp only [Rep] at rd
          obtain ⟨a, vs, rfl, y, rs⟩ := rd
          exact .inr ⟨a, vs, rfl, .inl (.inl (k1.sub _ _ y)), by rw [rs.length]; exact l, fin rs⟩
      | fn => simp [seqD] at hp
      | cell n =>
        obtain ⟨a, rfl, hA⟩ := rd
        obtain ⟨y, hy, okc⟩ := k1.idx hA
        simp only [seqD, hy] at hp
        cases y with
        | lst ds =>
          cases hp
          obtain ⟨_, vs, hH, rs⟩ := okc
          exact .inr ⟨a, vs, rfl, .inl (.inl hH), by rw [rs.length]; exact l, fin rs⟩
        | dK _ _ => cases hp
        | obj _ _ _ => cases hp
        | dead => cases hp
    · exact z.elim
  · split at z
    · exact ⟨z.1, l.nx _ _ z.2⟩
    · exact z.elim
end
end RB
/-! The lifted layer: methods of built-in things. -/
namespace RB
open PySem PySem.Spec PyProof.Rows L2
section
variable {G : Glob} {X : Cx} {W : WX} {o e : Expr} {es : List Expr} {apos pos : Pos} {T id : String} {name : Str}
theorem tyV_of {w : Wd} {S : Store} {H : Hp} (hK : X.K = G.K) (k : Wok G w S H) {d : D} {x : V} (r : RepD G w x d) (h : tyS S d = some T) (hT : T ∈ ["str", "list", "dict"]) : tyV X.K T x H := by
  cases d with
  | p d =>
    cases d with
    | str z =>
      cases h
      rw [rep_str.mp r]
      rfl
    | lst ds =>
      cases h
      have r : Rep G w.I x (.lst ds) := r
      simp only [Rep] at r
      obtain ⟨a, vs, rfl, z, _⟩ := r
      exact .inl ⟨rfl, vs, .inl (.inl (k.sub _ _ z))⟩
    | dK ks ds =>
      cases h
      have r : Rep G w.I x (.dK ks ds) := r
      simp only [Rep] at r
      obtain ⟨a, kvs, rfl, z, _⟩ := r
      exact .inr (.inr (.inl ⟨rfl, .inl ⟨kvs, k.sub _ _ z⟩⟩))
    | dT ks ds =>
      cases h
      have r : Rep G w.I x (.dT ks ds) := r
      simp only [Rep] at r
      obtain ⟨a, kvs, rfl, z, _⟩ := r
      exact .inr (.inr (.inl ⟨rfl, .inr ⟨kvs, k.sub _ _ z⟩⟩))
    | non => cases h; simp at hT
    | bl _ => cases h; simp at hT
    | int _ => cases h; simp at hT
    | tup _ => cases h; simp at hT
    | ty _ => cases h
    | scr _ => cases h
    | obj _ _ _ => cases h
  | fn => simp [tyS] at h
  | cell n =>
    obtain ⟨a, rfl, ha⟩ := r
    obtain ⟨c, hc, ok⟩ := k.idx ha
    simp only [tyS, hc] at h
    cases c with
    | lst ds =>
      cases h
      obtain ⟨_, vs, z, _⟩ := ok
      exact .inl ⟨rfl, vs, .inl (.inl z)⟩
    | dK ks ds =>
      cases h
      obtain ⟨_, kvs, z, _⟩ := ok
      exact .inr (.inr (.inl ⟨rfl, .inl ⟨kvs, z⟩⟩))
    | obj _ _ _ => cases h
    | dead => cases h
/-- o.name(..), a method of a built-in class -/
def wBM (T : String) (f : D → List D → Store → DK → Prop) (mo : WE) (ma : WA) : WE := fun r S Q E => mo r S (fun d S1 => tyS S1 d = some T ∧ ma r S1 (fun ds S2 => f d ds S2 Q) E) E
structure MtL (G : Glob) (X : Cx) (id : String) (f : D → List D → Store → DK → Prop) : Prop where
  run : ∃ rr, MtR X id rr ∧ ∀ x xs H Q w S d ds, Wok G w S H → RepD G w x d → RepDs G w xs ds → f d ds S (Qv G w H Q) → rr x xs H Q
  mono : ∀ d ds S Q Q', (∀ d S, Q d S → Q' d S) → f d ds S Q → f d ds S Q'
theorem re_bm {f : D → List D → Store → DK → Prop} {mo : WE} {ma : WA} (hK : X.K = G.K) (pa : PlainAttrs T) (slot : Slot T name id) (hty : typeOf (.builtin id) = pure (.type "method_descriptor")) (hT : T ∈ ["str", "list", "dict"]) (hm : MtL G X id f) (ho : RE G X W o mo) (ha : RA G X W (e :: es) ma)
    (hbase : attributeBase o name X.env (eval o X.env) = eval o X.env := by rfl)
    (hfew : ((backTo pos (starEach (e :: es) X.env)).all (fun x => !x.1) && (backToKw pos (keywordEach [] X.env)).all (fun x => x.1.isSome) && decide ((e :: es).length + ([] : List Keyword).length + (if ([] : List Keyword).isEmpty then 0 else 1) < 30)) = true := by rfl)
    (hline : (apos.endLine == pos.line) = true := by rfl) (hs : starEach (e :: es) X.env = (false, eval e X.env) :: starEach es X.env := by rfl) (hplain : (backTo pos (starEach es X.env)).any (·.1) = false := by rfl) :
    RE G X W (.Call (.Attribute o name apos) (e :: es) [] pos) (wBM T f mo ma) := by
  obtain ⟨rr, h1, h2⟩ := hm.run
  refine ⟨PE.imp (pe_bm pa slot hty h1 ho.pe ha.pe hbase hfew hline hs hplain) fun σ H Q ⟨w, S, r, ok, en, q⟩ => ?_, fun r S Q Q' E E' hq hE h => ho.mono r S _ _ _ _ (fun d S1 z => ⟨z.1, ha.mono _ _ _ _ _ _ (fun ds S2 y => hm.mono _ _ _ _ _ hq y) hE z.2⟩) hE h⟩
  refine tM.bind ho.mono ok en q (fun _ _ _ z => z) fun d S1 x w1 H1 x1 k1 r1 z => ?_
  refine ⟨tyV_of hK k1 r1 z.1 hT, w1, S1, r, k1, en.mono x1, ha.mono _ _ _ _ _ _ (fun ds S2 y vs w2 H2 x2 k2 r2 => ?_) (fun y S' u => u.ext x1) z.2⟩
  exact h2 x vs H2 Q w2 S2 d ds k2 (r1.mono x2) r2 (hm.mono _ _ _ _ _ (fun _ _ u => u.ext (x1.trans x2)) y)
/-- l.append(x) -/
def dAppend (d : D) (ds : List D) (S : Store) (Q : DK) : Prop := match d, ds with
  | .cell n, [.p p] => match S[n]? with
    | some (.lst ps) => ps.length < sizeLine ∧ Q (.p .non) (S.set n (.lst (ps ++ [p])))
    | _ => False
  | _, _ => False
theorem ml_append : MtL G X "list.append" dAppend := by
  refine ⟨⟨rAppend, mt_append, fun x xs H Q w S d ds k r rs q => ?_⟩, fun d ds S Q Q' hq q => ?_⟩
  · unfold dAppend at q
    split at q
    · rename_i n p
      split at q
      · rename_i ps hs
        obtain ⟨a, rfl, ha⟩ := r
        obtain ⟨v, rfl, rv⟩ := reps1 rs
        obtain ⟨nI, vs, z, rp⟩ := k.cells n _ a hs ha
        obtain ⟨k2, x2⟩ := k.write (o := .lst (vs ++ [v])) (c' := .lst (ps ++ [p])) hs ha nI ⟨nI, _, upd_same, rp.append (Reps.cons rv Reps.nil)⟩
        exact ⟨a, vs, v, rfl, rfl, z, by rw [rp.length]; exact q.1, q.2 .non w _ x2 k2 (rep_non.mpr rfl)⟩
      · exact q.elim
    · exact q.elim
  · unfold dAppend at q ⊢
    split at q
    · split at q
      · exact ⟨q.1, hq _ _ q.2⟩
      · exact q.elim
    · exact q.elim
/-- l[i] = v -/
def dLPut (d di dv : D) (S : Store) (K : Store → Prop) : Prop := match d, di, dv with
  | .cell n, .p (.int i), .p v => match S[n]? with
    | some (.lst ps) => ∃ j, ixN ps.length i = some j ∧ K (S.set n (.lst (ps.set j v)))
    | _ => False
  | _, _, _ => False
def wLPut (mo mi mv : WE) : WS := fun D r S => mv r S (fun dv S1 => mo r S1 (fun d S2 => mi r S2 (fun di S3 => dLPut d di dv S3 (fun S4 => D.nx r S4)) (D.xc r)) (D.xc r)) (D.xc r)
theorem rs_lput {i value : Expr} {pos' : Pos} {mo mi mv : WE} (ho : RE G X W o mo) (hi : RE G X W i mi) (hv : RE G X W value mv) (hs : swapsWithSole [.Subscript o i pos'] value pos.line X.env = pure false := by rfl) (hw : swappedStores [.Subscript o i pos'] value X.env = pure none := by rfl)
    (h1 : (assignEach [.Subscript o i pos'] X.env).map (·.2) = [assign (.Subscript o i pos') X.env] := by rfl)
    (ha : ∀ v, assign (.Subscript o i pos') X.env v = (do
      let ov ← holding [v] (eval o X.env)
      let iv ← holding [v, ov] (eval i X.env)
      standAt pos'
      holding [v, ov, iv] (setItem ov iv v)
      release [v, ov, iv] []) := by intro _; rfl) : RS G X W (.Assign [.Subscript o i pos'] value pos) (wLPut mo mi mv) := by
  refine ⟨PS.imp (ps_asg hv.pe (pg_sub ho.pe hi.pe set_list ha) hs hw h1) fun D σ H ⟨w, S, ρ, ok, en, q⟩ => ?_, fun D D' r S l q => hv.mono _ _ _ _ _ _ (fun dv S1 q => ho.mono _ _ _ _ _ _ (fun d S2 q => hi.mono _ _ _ _ _ _ (fun di S3 q => ?_) (l.xc r) q) (l.xc r) q) (l.xc r) q⟩
  · refine tM.low hv.mono ok en q fun dv S1 v w1 H1 x1 k1 r1 q1 => ?_
    refine tM.low ho.mono k1 (en.mono x1) (ho.mono _ _ _ _ _ _ (fun _ _ z => z) (fun y S' z => Sx.ext x1 z) q1) fun d S2 x w2 H2 x2 k2 r2 q2 => ?_
    have x12 := x1.trans x2
    refine tM.low hi.mono k2 (en.mono x12) (hi.mono _ _ _ _ _ _ (fun _ _ z => z) (fun y S' z => Sx.ext x12 z) q2) fun di S3 y w3 H3 x3 k3 r3 q3 => ?_
    have x13 := x12.trans x3
    unfold dLPut at q3
    split at q3
    · rename_i n j p
      split at q3
      · rename_i ps hs
        obtain ⟨j', hj, q3⟩ := q3
        obtain ⟨a, rfl, hn⟩ := rep_cell.mp (r2.mono x3)
        obtain ⟨nI, vs, z, rp⟩ := k3.cells n _ a hs hn
        have rv : Rep G w3.I v p := (r1.mono x2).mono x3
        obtain ⟨k4, x4⟩ := k3.write (o := .lst (vs.set j' v)) (c' := .lst (ps.set j' p)) hs hn nI ⟨nI, _, upd_same, Reps.set rv j' rp⟩
        refine ⟨a, vs, j, j', rfl, rep_int.mp r3, z, by rw [rp.length]; exact hj, q3 σ w3 _ (x13.trans x4) k4 ((en.mono x13).mono x4)⟩
      · exact q3.elim
    · exact q3.elim
  · unfold dLPut at q ⊢
    split at q
    · split at q
      · obtain ⟨j, hj, q⟩ := q
        exact ⟨j, hj, l.nx _ _ q⟩
      · exact q.elim
    · exact q.elim
/-- x in l, by what the data is -/
def dInD (neg : Bool) (d1 d2 : D) (S : Store) (Q : DK) : Prop := match pdD S d1, pdD S d2 with
  | some e1, some (.list es) => SeqAt.shaped e1 = true ∧ SeqAt.shaped (.list es) = true ∧ Q (.p (.bl (if neg then !es.any fun z => PyData.eqv z e1 else es.any fun z => PyData.eqv z e1))) S
  | _, _ => False
theorem dInD_mono (neg : Bool) (d1 d2 : D) (S : Store) (Q Q' : DK) (hq : ∀ d S, Q d S → Q' d S) (h : dInD neg d1 d2 S Q) : dInD neg d1 d2 S Q' := by
  unfold dInD at h ⊢
  split at h
  · exact ⟨h.1, h.2.1, hq _ _ h.2.2⟩
  · exact h.elim
theorem ol_inD (hK : X.K = G.K) (hu : X.A.units + 65 < cLine) : OpL G X (compareOp .In) (dInD false) := by
  refine OpL.mk' (op_inD hu) (fun x y H Q w S d1 d2 k r1 r2 h => ?_) (dInD_mono _)
  unfold dInD at h
  split at h
  · rename_i e1 es q1 q2
    exact ⟨e1, es, pdD_ok hK.symm k r1 q1, pdD_ok hK.symm k r2 q2, h.1, h.2.1, h.2.2.here k (rep_bl.mpr rfl)⟩
  · exact h.elim
theorem ol_notInD (hK : X.K = G.K) (hu : X.A.units + 65 < cLine) : OpL G X (compareOp .NotIn) (dInD true) := by
  refine OpL.mk' (op_notInD hu) (fun x y H Q w S d1 d2 k r1 r2 h => ?_) (dInD_mono _)
  unfold dInD at h
  split at h
  · rename_i e1 es q1 q2
    exact ⟨e1, es, pdD_ok hK.symm k r1 q1, pdD_ok hK.symm k r2 q2, h.1, h.2.1, h.2.2.here k (rep_bl.mpr rfl)⟩
  · exact h.elim
end
end RB
/-! The lifted layer: things of the program's classes made. -/
namespace RB
open PySem PySem.Spec PyProof.Rows L2
/-- n values and the keywords ks bind the names ps: gD tells the values by the names' order, defaults among them -/
def Bd (G : Glob) (K : PySem.W.Frag) (fd : FuncData) (ps : List Str) (n : Nat) (ks : List Str) (gD : List D → List D → List D) : Prop :=
  ∃ (g : List Value → List Value → List Value) (gV : List V → List V → List V), KBn K fd ps n ks g gV ∧ ∀ w vs zs ds es, RepDs G w vs ds → RepDs G w zs es → RepDs G w (gV vs zs) (gD ds es)
section
variable {G : Glob} {X : Cx} {W : WX} {n k m : Nat} {f Cc : Addr} {fd : FuncData} {ps ks : List Str} {sp : DSp} {gD : List D → List D → List D} {x : Str} {p pos : Pos} {e : Expr} {es : List Expr} {kws : List Keyword} {ma mk : WA} {c : String}
theorem run_mk (C : CxG G X W n) (M : Mk X.K Cc f) (F : FnG G X.prog X.w X.mg X.base k f fd ps sp) (hk : k + 1 ≤ n) {g : List Value → List Value → List Value} {gV : List V → List V → List V} (hb : KBn X.K fd ps (m + 1) ks g gV) {pins : List (Addr × Obj)} {σ : L2.St} {H : Hp} {s : Shared} {Q : VK} {us ws : List Value} {vs zs : List V}
    (J : Inv X pins σ H s) (r : Vals vs us) (rz : Vals zs ws) (l1 : vs.length = m) (l2 : zs.length = ks.length)
    (h : ∀ y dx, H y = none → H dx = none → dx ≠ y → spV G sp (gV (.ref y :: vs) zs) (L2.upd (L2.upd H dx (.own y)) y (.ins Cc dx [])) (fun v H2 => v = .non ∧ Q (.ref y) H2) fun c d H' => W c d σ H') :
    wpAny (model X.prog X.w) X.A (call (.ref Cc) us (ks.zip ws)) (EP X pins σ Q) X.xe s := by
  have hq := h (s.heap.objs.size + 1) s.heap.objs.size (J.hok.fresh (Nat.le_succ _)) (J.hok.fresh (Nat.le_refl _)) (Nat.ne_of_lt (Nat.lt_succ_self _))
  have J2 := Inv.made (C := Cc) J
  have q1 : Vals (V.ref (s.heap.objs.size + 1) :: vs) (Value.ref (s.heap.objs.size + 1) :: us) := .cons rfl r
  have n1 : (Value.ref (s.heap.objs.size + 1) :: us).length = m + 1 := by
    rw [← q1.length, List.length_cons, l1]
  have n2 : ws.length = ks.length := by
    rw [← rz.length, l2]
  have e0 := J2.env0
  rw [C.hK] at e0
  have room := (C.rm.mono hk).make Cc us (ks.zip ws)
  refine wpAny_call (make_map (f := f) J.kIn M.makes M.init (beq_iff_eq.mp M.fn) (codeAny_mono (F.run _ X.stack _ _ ⟨Value.ref (s.heap.objs.size + 1) :: us, ks.zip ws⟩ (g (Value.ref (s.heap.objs.size + 1) :: us) ws) _ _ _ room C.gd (e0.make Cc us (ks.zip ws)) (hb.to _ _ ws J2.kIn n1 n2) (hb.rel q1 rz) hq) fun z s' y => ?_))
  cases z with
  | error er => exact passAt C.tk σ pins _ _ er s' J2 y
  | ok fl =>
    cases fl with
    | ret u =>
      obtain ⟨v, H', J3, rv, ev, q3⟩ := J2.after y
      subst ev
      exact ⟨rv, ⟨V.ref (s.heap.objs.size + 1), H', J3, rfl, q3⟩⟩
    | next => exact y.elim
    | brk => exact y.elim
    | cont => exact y.elim
/-- a new thing of the class c, then its __init__ -/
def dMake (c : String) (sp : DSp) (ds : D → List D) (S : Store) (Q : DK) (E : EK) : Prop :=
  sp (ds (.cell S.length)) (S ++ [.obj c [] []]) (fun d S1 => d = .p .non ∧ match S1[S.length]? with
    | some (.obj c' ns vs) => Q (.p (.obj c' ns vs)) (S1.take S.length)
    | _ => False) (fun y S1 => E y (S1.take S.length))
theorem make_low {w : Wd} {S : Store} {H : Hp} {Q : VK} {E : XK} {y dx : Addr} (F : DMon sp) (hc : G.cls c = some Cc) (hi : G.isE c = false) (k0 : Wok G w S H) (ny : H y = none) (nd : H dx = none) (ne : dx ≠ y) {dd : D → List D} {vs : List V} (rv : ∀ w', Ext w H w' (L2.upd (L2.upd H dx (.own y)) y (.ins Cc dx [])) → RepD G w' (.ref y) (.cell S.length) → RepDs G w' vs (dd (.cell S.length)))
    (q : dMake c sp dd S (Qv G w H Q) (Qx G w H E)) : spV G sp vs (L2.upd (L2.upd H dx (.own y)) y (.ins Cc dx [])) (fun v H2 => v = .non ∧ Q (.ref y) H2) E := by
  unfold dMake at q
  obtain ⟨k1, x1⟩ := k0.allocX (o := .own y) nd
  have ny1 : L2.upd H dx (.own y) y = none := by
    rw [upd_ne (Ne.symm ne)]
    exact ny
  have Iy : w.I y = none := k0.freeI ny
  obtain ⟨k2, x2⟩ := k1.allocC (o := .ins Cc dx []) (c := .obj c [] []) ny1 ⟨Iy, hi, Cc, dx, [], hc, upd_same, rfl, Reps.nil⟩
  have x12 := x1.trans x2
  have ry : RepD G ⟨w.I, w.as ++ [y], w.ts⟩ (.ref y) (.cell S.length) := ⟨y, rfl, by
    show (w.as ++ [y])[S.length]? = some y
    rw [← k0.len, List.getElem?_append_right (Nat.le_refl _)]
    simp⟩
  refine ⟨_, S ++ [.obj c [] []], dd (.cell S.length), k2, rv _ x12 ry, F _ _ _ _ _ _ (fun d S1 z v w3 H3 x3 k3 r3 => ?_) (fun z S1 u cl d w3 H3 x3 k3 r3 => ?_) q⟩
  · obtain ⟨rfl, z⟩ := z
    refine ⟨rep_non.mp r3, ?_⟩
    split at z
    · rename_i c' ns vs' hs
      have x13 := x12.trans x3
      have ha : w3.as[S.length]? = some y := by
        obtain ⟨t, ht⟩ := x3.as
        rw [ht, List.getElem?_append_left (by show S.length < (w.as ++ [y]).length; rw [List.length_append, k0.len]; simp)]
        show (w.as ++ [y])[S.length]? = some y
        rw [← k0.len, List.getElem?_append_right (Nat.le_refl _)]
        simp
      obtain ⟨nI, hx, C', dx', fs, g1, g2, g3, g4⟩ := k3.cells _ _ y hs ha
      obtain ⟨k4, x4⟩ := k3.freeze hs ha g2 nI
      obtain ⟨k5, x5⟩ := k0.cut (x13.trans x4) k4
      have e5 : (S1.set S.length .dead).take S.length = S1.take S.length := by
        rw [List.take_set_of_le (Nat.le_refl _)]
      rw [e5] at k5
      refine z (.ref y) _ H3 x5 k5 ?_
      show Rep G _ (.ref y) (.obj c' ns vs')
      simp only [Rep]
      exact ⟨y, C', fs, rfl, g1, .inl ⟨hx, dx', upd_same⟩, g3, g4.mono x4.I⟩
    · exact z.elim
  · obtain ⟨k5, x5⟩ := k0.cut (x12.trans x3) k3
    exact u cl d _ H3 x5 k5 r3
def wMake (c : String) (sp : DSp) (n m : Nat) (gD : List D → List D → List D) (ma mk : WA) : WE := fun r S Q E => ma r S (fun ds S1 => mk r S1 (fun es S2 => ds.length = n ∧ es.length = m ∧ dMake c sp (fun d => gD (d :: ds) es) S2 Q E) E) E
theorem dMake_mono (hs : DMon sp) {c : String} {ds : D → List D} {S : Store} {Q Q' : DK} {E E' : EK} (hq : ∀ d S, Q d S → Q' d S) (hE : ∀ x S, E x S → E' x S) (h : dMake c sp ds S Q E) : dMake c sp ds S Q' E' := by
  unfold dMake at h ⊢
  refine hs _ _ _ _ _ _ (fun d S1 z => ?_) (fun x S1 z => hE _ _ z) h
  obtain ⟨z1, z2⟩ := z
  refine ⟨z1, ?_⟩
  split at z2
  · exact hq _ _ z2
  · exact z2.elim
theorem mon_make (hs : DMon sp) {c : String} {n m : Nat} (ha : MonA ma) (hk : MonA mk) : Mon (wMake c sp n m gD ma mk) := fun r S Q Q' E E' hq hE h =>
  ha _ _ _ _ _ _ (fun ds S1 z => hk _ _ _ _ _ _ (fun es S2 y => ⟨y.1, y.2.1, dMake_mono hs hq hE y.2.2⟩) hE z) hE h
/-- C(e, .., k = v, ..) -/
theorem re_makeK (C : CxG G X W n) (M : Mk X.K Cc f) (F : FnG G X.prog X.w X.mg X.base k f fd ps sp) (hk : k + 1 ≤ n) (hc : G.cls c = some Cc) (hi : G.isE c = false) (hg : Gl X x) (hm : X.mg x = some (.ref Cc)) (hb : Bd G X.K fd ps (m + 1) ks gD) (ha : RA G X W (e :: es) ma) (hkw : RK G X W kws mk)
    (hall : (backToKw pos (keywordEach kws X.env)).all (·.1.isSome) = true := by rfl) (hks : (backToKw pos (keywordEach kws X.env)).filterMap (·.1) = ks := by rfl) (hdb : (x == ("__debug__" : Str)) = false := by decide) (he : starEach (e :: es) X.env = (false, eval e X.env) :: starEach es X.env := by rfl)
    (hpl : ((backTo pos (starEach (e :: es) X.env)).any (·.1) || (backToKw pos (keywordEach kws X.env)).any (·.1.isNone)) = false := by rfl) : RE G X W (.Call (.Name x p) (e :: es) kws pos) (wMake c sp m ks.length gD ma mk) := by
  obtain ⟨g, gV, hb, hr⟩ := hb
  refine ⟨⟨fun pins s σ H Q J ⟨w, S, r, ok, en, q⟩ => ?_⟩, mon_make F.mono ha.mono hkw.mono⟩
  refine wpAny_Call_Name_kw (ld_glob J hg hm ?_ hdb)
  have h1 : tMa G W ma σ H fun vs H1 => tMa G W mk σ H1 fun zs H2 => vs.length = m ∧ zs.length = ks.length ∧ ∀ y dx, H2 y = none → H2 dx = none → dx ≠ y → spV G sp (gV (.ref y :: vs) zs) (L2.upd (L2.upd H2 dx (.own y)) y (.ins Cc dx [])) (fun v H3 => v = .non ∧ Q (.ref y) H3) fun c d H' => W c d σ H' := by
    refine ⟨w, S, r, ok, en, ha.mono r S _ _ _ _ (fun ds S1 z vs w1 H1 x1 k1 r1 => ?_) (fun _ _ z => z) q⟩
    refine ⟨w1, S1, r, k1, en.mono x1, hkw.mono r S1 _ _ _ _ (fun es' S2 u zs w2 H2 x2 k2 r2 => ?_) (fun _ _ u => u.ext x1) z⟩
    obtain ⟨l1, l2, u⟩ := u
    refine ⟨by rw [r1.length, l1], by rw [r2.length, l2], fun y dx ny nd ne => ?_⟩
    refine make_low F.mono hc hi k2 ny nd ne (dd := fun d => gD (d :: ds) es') (fun w' x' ry => hr w' _ _ _ _ ⟨ry, (r1.mono x2).mono x'⟩ (r2.mono x')) (dMake_mono F.mono (fun _ _ v => v.ext (x1.trans x2)) (fun _ _ v => v.ext (x1.trans x2)) u)
  refine PySem.W.callWith_KW (h₀ := X.base) J.ok.mod.kin M.kp hall (thn (ha.pe.run pos pins s σ H _ J h1) fun us s1 ⟨vs, H1, J1, rv, q1⟩ => ?_) hpl he
  refine thn (hkw.pk.run pos pins s1 σ H1 _ J1 q1) fun ws s2 ⟨zs, H2, J2, rz, l1, l2, q2⟩ => ⟨J2.kIn, ?_⟩
  rw [hks]
  exact run_mk C M F hk hb J2 rv rz l1 l2 q2
/-- C(e, ..) -/
theorem re_make (C : CxG G X W n) (M : Mk X.K Cc f) (F : FnG G X.prog X.w X.mg X.base k f fd ps sp) (hk : k + 1 ≤ n) (hc : G.cls c = some Cc) (hi : G.isE c = false) (hg : Gl X x) (hm : X.mg x = some (.ref Cc)) (hb : Bd G X.K fd ps (m + 1) [] gD) (ha : RA G X W (e :: es) ma)
    (hdb : (x == ("__debug__" : Str)) = false := by decide) (he : starEach (e :: es) X.env = (false, eval e X.env) :: starEach es X.env := by rfl) (hpl : (backTo pos (starEach es X.env)).any (·.1) = false := by rfl) : RE G X W (.Call (.Name x p) (e :: es) [] pos) (wMake c sp m 0 gD ma wNil) := by
  obtain ⟨g, gV, hb, hr⟩ := hb
  refine ⟨⟨fun pins s σ H Q J ⟨w, S, r, ok, en, q⟩ => ?_⟩, mon_make F.mono ha.mono (fun _ _ _ _ _ _ hq _ h => hq _ _ h)⟩
  refine wpAny_Call_Name_kw (ld_glob J hg hm ?_ hdb)
  have h1 : tMa G W ma σ H fun vs H2 => vs.length = m ∧ ∀ y dx, H2 y = none → H2 dx = none → dx ≠ y → spV G sp (gV (.ref y :: vs) []) (L2.upd (L2.upd H2 dx (.own y)) y (.ins Cc dx [])) (fun v H3 => v = .non ∧ Q (.ref y) H3) fun c d H' => W c d σ H' := by
    refine ⟨w, S, r, ok, en, ha.mono r S _ _ _ _ (fun ds S1 z vs w1 H1 x1 k1 r1 => ?_) (fun _ _ z => z) q⟩
    obtain ⟨l1, l2, u⟩ := z
    refine ⟨by rw [r1.length, l1], fun y dx ny nd ne => ?_⟩
    exact make_low F.mono hc hi k1 ny nd ne (dd := fun d => gD (d :: ds) []) (fun w' x' ry => hr w' _ _ _ _ ⟨ry, r1.mono x'⟩ trivial) (dMake_mono F.mono (fun _ _ v => v.ext x1) (fun _ _ v => v.ext x1) u)
  refine PySem.W.callWith_K (h₀ := X.base) J.ok.mod.kin M.kp (thn (ha.pe.run pos pins s σ H _ J h1) fun us s1 ⟨vs, H1, J1, rv, l1, q1⟩ => ⟨J1.kIn, ?_⟩) he hpl
  exact run_mk (ks := []) (ws := []) (zs := []) C M F hk hb J1 rv .nil l1 rfl q1
end
end RB
/-! The lifted layer: fields set, methods of the program's classes. -/
namespace RB
open PySem PySem.Spec PyProof.Rows L2
def fputN (f : Str) : List Str → List Str
  | [] => [f]
  | g :: r => if g = f then g :: r else g :: fputN f r
def fputV (f : Str) (v : P) : List Str → List P → List P
  | g :: r, x :: xs => if g = f then v :: xs else x :: fputV f v r xs
  | _, _ => [v]
theorem putF_ok {G : Glob} {I : Hp} {f : Str} {y : V} {v : P} (hv : Rep G I y v) : ∀ {fs : List (Str × V)} {ds : List P}, Reps G I (fs.map (·.2)) ds → (putF f y fs).map (·.1) = fputN f (fs.map (·.1)) ∧ Reps G I ((putF f y fs).map (·.2)) (fputV f v (fs.map (·.1)) ds)
  | [], ds, r => by
    cases ds with
    | nil => exact ⟨rfl, Reps.cons hv Reps.nil⟩
    | cons d ds =>
      simp only [List.map_nil, Reps] at r
      obtain ⟨_, _, e, _⟩ := r
      cases e
  | (g, x) :: fs, ds, r => by
    cases ds with
    | nil =>
      simp only [List.map_cons, Reps] at r
      cases r
    | cons d ds =>
      simp only [List.map_cons, Reps] at r
      obtain ⟨v1, r1, e, q1, q2⟩ := r
      cases e
      unfold putF
      by_cases h : g = f
      · rw [if_pos h]
        simp only [List.map_cons, fputN, fputV, if_pos h]
        exact ⟨trivial, Reps.cons hv q2⟩
      · rw [if_neg h]
        simp only [List.map_cons, fputN, fputV, if_neg h]
        obtain ⟨i1, i2⟩ := putF_ok hv (fs := fs) q2
        exact ⟨by rw [i1], Reps.cons q1 i2⟩
section
variable {G : Glob} {X : Cx} {W : WX} {n : Nat} {o e value : Expr} {es : List Expr} {pos pos' apos : Pos} {f m : Str} {mo mv : WE} {ma : WA}
/-- o.f = v, o a thing that changes -/
def dFSet (cs : List String) (f : Str) (d dv : D) (S : Store) (K : Store → Prop) : Prop := match d, dv with
  | .cell n, .p v => match S[n]? with
    | some (.obj c ns vs) => c ∈ cs ∧ ns.length < 900 ∧ K (S.set n (.obj c (fputN f ns) (fputV f v ns vs)))
    | _ => False
  | _, _ => False
def wFSet (cs : List String) (f : Str) (mo mv : WE) : WS := fun D r S => mv r S (fun dv S1 => mo r S1 (fun d S2 => dFSet cs f d dv S2 (fun S3 => D.nx r S3)) (D.xc r)) (D.xc r)
theorem rs_fset {cs : List String} (hc : ∀ c ∈ cs, ∀ C, G.cls c = some C → Cls X.K C ∧ NoAttr X.K C f) (ho : RE G X W o mo) (hv : RE G X W value mv) (hs : swapsWith value (some (.Attribute o f pos')) pos.line X.env = pure false := by rfl) :
    RS G X W (.Assign [.Attribute o f pos'] value pos) (wFSet cs f mo mv) := by
  refine ⟨PS.imp (ps_fld ho.pe hv.pe hs) fun D σ H ⟨w, S, ρ, ok, en, q⟩ => ?_, fun D D' r S l q => hv.mono _ _ _ _ _ _ (fun dv S1 q => ho.mono _ _ _ _ _ _ (fun d S2 q => ?_) (l.xc r) q) (l.xc r) q⟩
  · refine tM.low hv.mono ok en q fun dv S1 v w1 H1 x1 k1 r1 q1 => ?_
    refine tM.low ho.mono k1 (en.mono x1) (ho.mono _ _ _ _ _ _ (fun _ _ z => z) (fun y S' z => Sx.ext x1 z) q1) fun d S2 x w2 H2 x2 k2 r2 q2 => ?_
    have x12 := x1.trans x2
    unfold dFSet at q2
    split at q2
    · rename_i j p
      split at q2
      · rename_i c ns vs hs2
        obtain ⟨hcs, hl, q2⟩ := q2
        obtain ⟨a, rfl, ha⟩ := r2
        obtain ⟨nI, hx, C, dx, fs, g1, g2, g3, g4⟩ := k2.cells j _ a hs2 ha
        have rv : Rep G w2.I v p := r1.mono x2
        obtain ⟨t1, t2⟩ := hc c hcs C g1
        obtain ⟨i1, i2⟩ := putF_ok (f := f) rv (fs := fs) g4
        rw [g3] at i1 i2
        have lf : fs.length = ns.length := by
          rw [← g3, List.length_map]
        obtain ⟨k3, x3⟩ := k2.write (o := .ins C dx (putF f v fs)) (c' := .obj c (fputN f ns) (fputV f p ns vs)) hs2 ha nI ⟨nI, hx, C, dx, _, g1, upd_same, i1, i2⟩
        exact ⟨a, C, dx, fs, rfl, g2, t1, t2, by omega, q2 σ w2 _ (x12.trans x3) k3 ((en.mono x12).mono x3)⟩
      · exact q2.elim
    · exact q2.elim
  · unfold dFSet at q ⊢
    split at q
    · split at q
      · exact ⟨q.1, q.2.1, l.nx _ _ q.2.2⟩
      · exact q.elim
    · exact q.elim
/-- what a row knows of a class's method: it keeps the promise sp -/
structure MtC (G : Glob) (X : Cx) (n : Nat) (m : Str) (c : String) (sp : DSp) (gD : List D → List D) : Prop where
  isE : G.isE c = false
  mono : DMon sp
  run : ∃ (C g : Addr) (fd : FuncData) (ps : List Str) (k : Nat) (ds : List Value) (dvs : List V), G.cls c = some C ∧ Cls X.K C ∧ Meth X.K C m g ∧ FnG G X.prog X.w X.mg X.base k g fd ps sp ∧ k ≤ n ∧ Binds X.K fd ps ds ∧ Vals dvs ds ∧ ∀ w vs es, RepDs G w vs es → RepDs G w (vs ++ dvs) (gD es)
/-- the promises of a method by the class -/
def dMeth (m : Str) (tab : List (String × DSp × (List D → List D))) (d : D) (ds : List D) (S0 S : Store) (Q : DK) (E : EK) : Prop := match objOf S0 d with
  | some (c, ns, _) => m ∉ ns ∧ ∃ q, tab.lookup c = some q ∧ q.1 (q.2 (d :: ds)) S Q E
  | none => False
def wMeth (m : Str) (tab : List (String × DSp × (List D → List D))) (mo : WE) (ma : WA) : WE := fun r S Q E => mo r S (fun d S0 => match objOf S0 d with
  | some (c, ns, _) => m ∉ ns ∧ ∃ q, tab.lookup c = some q ∧ ma r S0 (fun ds S1 => q.1 (q.2 (d :: ds)) S1 Q E) E
  | none => False) E
theorem lookup_mem {α : Type} {c : String} {q : α} : ∀ {tab : List (String × α)}, tab.lookup c = some q → (c, q) ∈ tab
  | [], h => by cases h
  | (c', q') :: t, h => by
    unfold List.lookup at h
    split at h
    · rename_i e
      cases h
      rw [beq_iff_eq.mp e]
      exact List.mem_cons_self
    · exact List.mem_cons_of_mem _ (lookup_mem h)
theorem mon_meth {tab : List (String × DSp × (List D → List D))} (ht : ∀ q ∈ tab, DMon q.2.1) (ho : Mon mo) (ha : MonA ma) : Mon (wMeth m tab mo ma) := fun r S Q Q' E E' hq hE h => ho _ _ _ _ _ _ (fun d S1 z => by
  split at z
  · obtain ⟨z1, q, z2, z3⟩ := z
    exact ⟨z1, q, z2, ha _ _ _ _ _ _ (fun ds S2 y => ht _ (lookup_mem z2) _ _ _ _ _ _ hq hE y) hE z3⟩
  · exact z.elim) hE h
theorem re_meth {tab : List (String × DSp × (List D → List D))} {pl : Sem Bool} (C : CxG G X W n) (ht : ∀ q ∈ tab, MtC G X n m q.1 q.2.1 q.2.2) (ho : RE G X W o mo) (ha : RA G X W (e :: es) ma)
    (hst : starEach (e :: es) X.env = (false, eval e X.env) :: starEach es X.env := by rfl) (hpl : (backTo pos (starEach es X.env)).any (·.1) = false := by rfl)
    (hev : eval (.Call (.Attribute o m apos) (e :: es) [] pos) X.env = (do
      let ov ← eval o X.env
      standAt apos.atName
      let (f, first) ← holding [ov] (getMethod ov m pl)
      callWith pos f first (backTo pos (starEach (e :: es) X.env)) (backToKw pos (keywordEach [] X.env))) := by rfl) : RE G X W (.Call (.Attribute o m apos) (e :: es) [] pos) (wMeth m tab mo ma) := by
  refine ⟨⟨fun pins s σ H Q J ⟨w, S, r, ok, en, q⟩ => ?_⟩, mon_meth (fun q hq => (ht q hq).mono) ho.mono ha.mono⟩
  have h1 : tM G W mo σ H fun x H1 => ∃ (a dx : Addr) (fs : List (Str × V)) (c : String) (Ca : Addr) (t : DSp × (List D → List D)), x = .ref a ∧ G.cls c = some Ca ∧ H1 a = some (.ins Ca dx fs) ∧ fs.lookup m = none ∧ tab.lookup c = some t ∧
      tMa G W ma σ H1 fun vs H2 => ∃ w2 S2 d ds, Wok G w2 S2 H2 ∧ RepDs G w2 (.ref a :: vs) (d :: ds) ∧ t.1 (t.2 (d :: ds)) S2 (Qv G w2 H2 Q) (Qx G w2 H2 fun c d H' => W c d σ H') := by
    refine tM.bind ho.mono ok en q (fun _ _ _ z => z) fun d S1 x w1 H1 x1 k1 r1 z => ?_
    split at z
    · rename_i c ns vs hz
      obtain ⟨z1, t, z2, z3⟩ := z
      have mt := ht _ (lookup_mem z2)
      obtain ⟨a, Ca, fs, e1, e2, e3, e4, _⟩ := objOf_at k1 r1 hz
      subst e1
      rcases e3 with ⟨_, dx, e3⟩ | ⟨e0, _⟩
      · have hl : fs.lookup m = none := by
          rw [List.lookup_eq_none_iff]
          intro y hy
          have : y.1 ∈ ns := by
            rw [← e4]
            exact List.mem_map.mpr ⟨y, hy, rfl⟩
          have ne : m ≠ y.1 := fun e => z1 (by rw [e]; exact this)
          simpa using ne
        refine ⟨a, dx, fs, c, Ca, t, rfl, e2, e3, hl, z2, w1, S1, r, k1, en.mono x1, ha.mono _ _ _ _ _ _ (fun ds S2 y vs w2 H2 x2 k2 r2 => ?_) (fun y S' u => u.ext x1) z3⟩
        exact ⟨w2, S2, d, ds, k2, ⟨r1.mono x2, r2⟩, mt.mono _ _ _ _ _ _ (fun _ _ u => u.ext (x1.trans x2)) (fun _ _ u => u.ext (x1.trans x2)) y⟩
      · have := mt.isE
        simp only at this
        rw [e0] at this
        cases this
    · exact z.elim
  refine PySem.W.methodCall_KW (pl := pl) (thn (ho.pe.run pins s σ H _ J h1) fun u s1 ⟨x, H1, J1, rx, a, dx, fs, c, Ca, t, ex, hC, ea, l, lt, q⟩ => ?_) hev
  subst ex
  obtain rfl : u = Value.ref a := rx
  obtain ⟨C2, g, fd, ps, k, dsv, dvs, g1, g2, g3, g4, g5, g6, g7, g8⟩ := (ht _ (lookup_mem lt)).run
  simp only at g1
  rw [hC] at g1
  cases g1
  refine getmeth_ok J1 ea g2 g3 l ?_
  refine PySem.W.callWith_K (first := [.ref a]) (h₀ := X.base) J.ok.mod.kin g3.kp (thn (ha.pe.run pos pins s1 σ H1 _ J1 q) fun us s2 ⟨vs, H2, J2, rv, w2, S2, d, ds, k2, rd, q2⟩ => ⟨J2.kIn, ?_⟩) hst hpl
  have r2 : Vals (.ref a :: vs ++ dvs) (.ref a :: us ++ dsv) := (show Vals (.ref a :: vs) (.ref a :: us) from .cons rfl rv).append g7
  have sv : spV G t.1 (.ref a :: vs ++ dvs) H2 Q fun c d H' => W c d σ H' := ⟨w2, S2, t.2 (d :: ds), k2, g8 w2 _ _ rd, q2⟩
  have hl : (.ref a :: us ++ dsv).length = ps.length := by
    obtain ⟨w3, S3, es3, _, rd3, q3⟩ := id sv
    rw [← r2.length, rd3.length]
    exact g4.len _ _ _ _ q3
  exact run_g (args := ⟨.ref a :: us, []⟩) C g4 g5 J2 (g6 s2 (.ref a :: us) J2.kIn hl) r2 sv
end
end RB
/-! The lifted layer: what a row must show of its classes, as checks. -/
namespace RB
open PySem PySem.Spec PyProof.Rows L2
def clsStmt (s : Stmt) (j : Nat) : Stmt := match s with
  | .ClassDef _ _ _ b _ _ _ _ _ _ _ => b.getD j (.Pass ⟨0, 0, 0, 0⟩)
  | _ => .Pass ⟨0, 0, 0, 0⟩
def dec (p : Prop) [Decidable p] : Bool := decide p
theorem dec_ok {p : Prop} [Decidable p] (h : dec p = true) : p := of_decide_eq_true h
theorem and2 {a b : Bool} (h : (a && b) = true) : a = true ∧ b = true := by simpa using h
/-- the class object of an error over ValueError, with fields of its own -/
def oexO (K : PySem.W.Frag) (C : Addr) : Bool := match K.lookup C with
  | some ⟨.type "type", _, .cls cd, sl⟩ => (match cd.mro, sl.toList with
    | .ref C' :: bm, [_, _, _, _, some (.builtin i), _] => dec (C' = C) && (dec (i = "ValueError.__new__") && (!cd.hasDel && (cd.hasDict && HandSPX.refsVE bm)))
    | _, _ => false)
  | _ => false
theorem oexO_ok {K : PySem.W.Frag} {C : Addr} (q : oexO K C = true) : ∃ nm qn N bs bm sn sub ab col dd k0 k1 k2 k3 k5, K.lookup C = some (excClassObj nm qn C N bs bm true sn sub ab col dd k0 k1 k2 k3 k5 "ValueError.__new__") ∧ HandSPX.refsVE bm = true := by
  unfold oexO at q
  split at q
  · rename_i dd cd sl ho
    split at q
    · rename_i C' bm k0 k1 k2 k3 i k5 hm hs
      obtain ⟨q1, q⟩ := and2 q
      obtain ⟨q2, q⟩ := and2 q
      obtain ⟨q3, q⟩ := and2 q
      obtain ⟨q4, q5⟩ := and2 q
      have q1 := dec_ok q1
      have q2 := dec_ok q2
      subst q1 q2
      obtain ⟨nm, bs, mro, ns, qn, hd, sn, sub, ab, col, del⟩ := cd
      have q6 : del = false := by simpa using q3
      have q7 : hd = true := q4
      have q8 : mro = .ref C' :: bm := hm
      subst q6
      subst q7
      subst q8
      obtain ⟨ls⟩ := sl
      simp only at hs
      subst hs
      exact ⟨nm, qn, ns, bs, bm, sn, sub, ab, col, dd, k0, k1, k2, k3, k5, ho, q5⟩
    · cases q
  · cases q
def oexB (K : PySem.W.Frag) (C : Addr) : Bool := oexO K C && (dec (PySem.W.findIn K (.ref C) "__setattr__" = some (some (.builtin "object.__setattr__"))) && (dec (PySem.W.subIn K (.ref C) (.type "BaseException") = some true) && (dec (PySem.W.typeIn K (.ref C) = some (.type "type")) && PySem.W.keepIn K (.ref C))))
theorem oexB_ok {K : PySem.W.Frag} {C : Addr} (h : oexB K C = true) : OexC K C := by
  obtain ⟨h1, h⟩ := and2 h
  obtain ⟨h2, h⟩ := and2 h
  obtain ⟨h3, h⟩ := and2 h
  obtain ⟨h4, h5⟩ := and2 h
  exact ⟨oexO_ok h1, dec_ok h2, dec_ok h3, dec_ok h4, h5⟩
/-- an error's class, its __init__ and its fields -/
def exB (K : PySem.W.Frag) (x : Str) (fs : List Str) : Bool := oexB K (He.ga K x) && (dec (PySem.W.findIn K (.ref (He.ga K x)) "__init__" = some (some (.ref (He.ma K (He.ga K x) "__init__")))) &&
  (dec (PySem.W.typeIn K (.ref (He.ma K (He.ga K x) "__init__")) = some (.type "function")) && fs.all fun f => dec (PySem.W.findIn K (.ref (He.ga K x)) f = some none)))
theorem exB_ok {K : PySem.W.Frag} {x : Str} {fs : List Str} (h : exB K x fs = true) : ExK K (He.ga K x) (He.ma K (He.ga K x) "__init__") fs := by
  obtain ⟨h1, h⟩ := and2 h
  obtain ⟨h2, h⟩ := and2 h
  obtain ⟨h3, h4⟩ := and2 h
  exact ⟨oexB_ok h1, dec_ok h2, dec_ok h3, fun f hf => dec_ok (List.all_eq_true.mp h4 f hf)⟩
def isCB (K : PySem.W.Frag) (C : Addr) : Bool := (PySem.W.clsIn K C).isSome && (dec (PySem.W.findIn K (.ref C) "__getattr__" = some none) && (dec (PySem.W.findIn K (.ref C) "__class__" = some (some (.builtin "object.__class__"))) &&
  (dec (PySem.W.specialIn K (.builtin "object.__class__") "__get__" = some (some (.builtin "getset_descriptor.__get__"))) && (dec (PySem.W.takesIn K (.builtin "object.__class__") = some true) && dec (PySem.W.mroIn K C (.type "object") = some true)))))
theorem isCB_ok {K : PySem.W.Frag} {C : Addr} (h : isCB K C = true) : IsC K C := by
  obtain ⟨h1, h⟩ := and2 h
  obtain ⟨h2, h⟩ := and2 h
  obtain ⟨h3, h⟩ := and2 h
  obtain ⟨h4, h⟩ := and2 h
  obtain ⟨h5, h6⟩ := and2 h
  exact ⟨h1, dec_ok h2, dec_ok h3, dec_ok h4, dec_ok h5, dec_ok h6⟩
/-! ### the hook with a row's own checks -/
def obsC (fa : List He.Fa) (fn : List He.DefD) (ck : PySem.W.Frag → Bool) (K : PySem.W.Frag) : He.AlD × Bool := (He.obsD fa fn K, (K.lookup sysModules).isSome && ck K)
def obsCG (n : Nat) (fa : List He.Fa) (fn : List He.DefD) (ck : PySem.W.Frag → Bool) (g : Addr → Option Obj) : He.AlD × Bool := obsC fa fn ck (He.frG g (sysModules :: He.asD g n))
def hookC (n : Nat) (fa : List He.Fa) (fn : List He.DefD) (ck : PySem.W.Frag → Bool) : PySem.W.Hook where
  α := He.AlD × Bool
  obs := fun s => obsCG n fa fn ck s.heap.get?
  val := fun _ => (He.valD fn, true)
  says := fun _ h => ∃ K : PySem.W.Frag, K.In h ∧ He.SaysD fa fn K ∧ KSys K ∧ ck K = true
  of := fun _ _ e => ⟨_, He.frG_in, congrArg Prod.fst e, Option.isSome_iff_exists.mp (and2 (congrArg Prod.snd e)).1, (and2 (congrArg Prod.snd e)).2⟩
  keeps := fun _ _ _ ⟨K, hK, c⟩ k => ⟨K, PySem.W.Frag.In.keeps hK k, c⟩
theorem obsCG_eq {n : Nat} {fa : List He.Fa} {fn : List He.DefD} {ck : PySem.W.Frag → Bool} {g : Addr → Option Obj} {s : Shared} (h : ∀ a, g a = s.heap.get? a) : obsCG n fa fn ck g = (hookC n fa fn ck).obs s := by
  have e : g = s.heap.get? := funext h
  rw [e]
  rfl
section
variable {G : Glob} {X : Cx} {W : WX} {n : Nat}
theorem rs_tryP {body : List Stmt} {h0 : ExceptHandler} {hds : List ExceptHandler} {l : List (List Value × Nat × TS)} {hs : List ((String → Bool) × Nat × WS)} {mb : WS} {pos : Pos} (C : CxG G X W n) (hp : PassesOwn (model X.prog X.w) X.A X.env X.xe) (st : X.stack = X.env :: X.outer) (fr : X.env.frame = some X.env.locals) (nx : X.ex = []) (nd : X.N.Nodup)
    (hb : ∀ (W' : WX) (pn : List (Addr × Obj)) (xe : Value → Shared → Prop), CxG G (X.tr pn xe) W' n → PassesOwn (model X.prog X.w) X.A X.env xe → RSs G (X.tr pn xe) W' body mb) (hh : HdL G X (h0 :: hds) l hs) :
    RS G X W (.Try body (h0 :: hds) [] [] pos) (wTry mb hs) :=
  rs_try C st fr nx nd hb (hb W X.pn X.xe ⟨C.hK, C.tk, C.rm, C.gd, C.calm⟩ hp).mono hh
end
end RB
/-! The lifted layer: zip and enumerate. -/
namespace RB
open PySem PySem.Spec PyProof.Rows L2
section
variable {G : Glob} {X : Cx} {W : WX} {e e2 : Expr} {elts : List Expr} {kk : Nat} {p pos tpos : Pos} {ma : WA} {m : WE}
def pairD (q : P × P) : D := .p (.tup [q.1, q.2])
def zipP : D → D → Option (List D)
  | .p (.lst xs), .p (.lst ys) => some ((xs.zip ys).map pairD)
  | .p (.tup xs), .p (.tup ys) => some ((xs.zip ys).map pairD)
  | _, _ => none
def wZip (ma : WA) : WA := fun r S Q E => ma r S (fun ds S1 => match ds with
  | [d1, d2] => match zipP d1 d2 with
    | some ds => Q ds S1
    | none => False
  | _ => False) E
theorem zip_yld {w : Wd} {xs ys : List P} {vs us : List V} (r1 : Reps G w.I vs xs) (r2 : Reps G w.I us ys) {i : Nat} {H H' : Hp} {v : V} {T : Addr} {x y : V} (hi : i < ((xs.zip ys).map pairD).length) (e1 : v = .ref T) (e2 : H T = none) (e3 : H' = L2.upd H T (.tup [x, y])) (e4 : vs[i]? = some x) (e5 : us[i]? = some y) :
    Yld G w ((xs.zip ys).map pairD) i H v H' := by
  obtain ⟨p1, h1, q1⟩ := r1.get' e4
  obtain ⟨p2, h2, q2⟩ := r2.get' e5
  refine ⟨pairD (p1, p2), ?_, .inr ⟨T, [x, y], [p1, p2], rfl, e1, e2, e3, Reps.cons q1 (Reps.cons q2 Reps.nil)⟩⟩
  have hz : (xs.zip ys)[i]? = some (p1, p2) := List.getElem?_zip_eq_some.mpr ⟨h1, h2⟩
  rw [List.getElem?_map, hz]
  rfl
theorem ri_zip (hK : X.K = G.K) (hg : Gl X "zip") (hm : X.mg "zip" = none) (ha : RA G X W [e, e2] ma) (hs : starEach [e, e2] X.env = (false, eval e X.env) :: starEach [e2] X.env := by rfl) (hpl : (backTo pos (starEach [e2] X.env)).any (·.1) = false := by rfl) :
    RI G X W (.Tuple elts kk tpos) (.Call (.Name "zip" p) [e, e2] [] pos) (wZip ma) := by
  refine ⟨PI.imp (RZ.pi_zipA hg hm ha.pe hs hpl) fun σ H R ⟨w, S, r, ok, en, q⟩ => ?_, fun r S Q Q' E E' hq hE h => ha.mono _ _ _ _ _ _ (fun ds S1 z => ?_) hE h⟩
  · refine ⟨w, S, r, ok, en, ha.mono _ _ _ _ _ _ (fun ds S1 z vs w1 H1 x1 k1 rs => ?_) (fun _ _ z => z) q⟩
    split at z
    · rename_i d1 d2
      obtain ⟨v1, v2, rfl, r1, r2⟩ := rs.two
      split at z
      · rename_i ds hz
        unfold zipP at hz
        split at hz
        · rename_i xs ys
          cases hz
          have r1 : Rep G w1.I v1 (.lst xs) := r1
          have r2 : Rep G w1.I v2 (.lst ys) := r2
          simp only [Rep] at r1 r2
          obtain ⟨a, vs, rfl, ia, ra⟩ := r1
          obtain ⟨b, us, rfl, ib, rb⟩ := r2
          have sa : ∀ H2, Same w1.I H2 → SqL X.K H2 a vs := fun H2 s => .inl (.inl (s _ _ ia))
          have sb : ∀ H2, Same w1.I H2 → SqL X.K H2 b us := fun H2 s => .inl (.inl (s _ _ ib))
          refine ⟨a, b, vs, us, rfl, .inl ⟨sa _ k1.sub, sb _ k1.sub, z _ w1 H1 x1 k1 ?_⟩⟩
          have W1 := walk_zip (K := X.K) (a := a) (b := b) (xs := vs) (ys := us) (n := ((xs.zip ys).map pairD).length) (by rw [List.length_map, List.length_zip, ra.length, rb.length])
          refine ⟨fun i H2 hi s => W1.goes i H2 hi ⟨sa _ s, sb _ s⟩, fun H2 s => W1.stops H2 ⟨sa _ s, sb _ s⟩, fun i H2 v H3 hi s y => ?_⟩
          obtain ⟨T, x, y', e1, e2, e3, e4, e5⟩ := y
          exact zip_yld ra rb hi e1 e2 e3 (e4 _ (sa _ s)) (e5 _ (sb _ s))
        · rename_i xs ys
          cases hz
          obtain ⟨a, vs, rfl, ia, ra⟩ := rep_tup.mp r1
          obtain ⟨b, us, rfl, ib, rb⟩ := rep_tup.mp r2
          rw [← hK] at ia ib
          have sa : ∀ H2, Same w1.I H2 → SqT X.K H2 a vs := fun H2 s => Same.tup s ia
          have sb : ∀ H2, Same w1.I H2 → SqT X.K H2 b us := fun H2 s => Same.tup s ib
          refine ⟨a, b, vs, us, rfl, .inr ⟨sa _ k1.sub, sb _ k1.sub, z _ w1 H1 x1 k1 ?_⟩⟩
          have ln : ((xs.zip ys).map pairD).length = min vs.length us.length := by
            rw [List.length_map, List.length_zip, ra.length, rb.length]
          refine ⟨fun i H2 hi s => ?_, fun H2 s => ⟨vs, us, sa _ s, sb _ s, by omega⟩, fun i H2 v H3 hi s y => ?_⟩
          · have h1 : i < vs.length := by omega
            have h2 : i < us.length := by omega
            exact ⟨vs, us, vs[i], us[i], sa _ s, sb _ s, List.getElem?_eq_getElem h1, List.getElem?_eq_getElem h2⟩
          · obtain ⟨T, x, y', e1, e2, e3, e4, e5⟩ := y
            exact zip_yld ra rb hi e1 e2 e3 (e4 _ (sa _ s)) (e5 _ (sb _ s))
        · cases hz
      · exact z.elim
    · exact z.elim
  · split at z
    · split at z
      · exact hq _ _ z
      · exact z.elim
    · exact z.elim
/-- the numbered items of a list -/
def enumP (xs : List P) : List D := ((List.range xs.length).zip xs).map fun q => .p (.tup [.int ((q.1 : Nat) : Int), q.2])
def wEnum (ma : WA) : WA := fun r S Q E => ma r S (fun ds S1 => match ds with
  | [.p (.lst xs)] => Q (enumP xs) S1
  | _ => False) E
theorem ri_enum (hg : Gl X "enumerate") (hm : X.mg "enumerate" = none) (ha : RA G X W [e] ma) (hs : starEach [e] X.env = [(false, eval e X.env)] := by rfl) : RI G X W (.Tuple elts kk tpos) (.Call (.Name "enumerate" p) [e] [] pos) (wEnum ma) := by
  refine ⟨PI.imp (pi_enum hg hm ha.pe hs) fun σ H R ⟨w, S, r, ok, en, q⟩ => ?_, fun r S Q Q' E E' hq hE h => ha.mono _ _ _ _ _ _ (fun ds S1 z => ?_) hE h⟩
  · refine ⟨w, S, r, ok, en, ha.mono _ _ _ _ _ _ (fun ds S1 z vs w1 H1 x1 k1 rs => ?_) (fun _ _ z => z) q⟩
    split at z
    · rename_i xs
      obtain ⟨v1, rfl, r1⟩ := reps1 rs
      have r1 : Rep G w1.I v1 (.lst xs) := r1
      simp only [Rep] at r1
      obtain ⟨a, vs, rfl, ia, ra⟩ := r1
      have sa : ∀ H2, Same w1.I H2 → SqL X.K H2 a vs := fun H2 s => .inl (.inl (s _ _ ia))
      refine ⟨a, vs, rfl, sa _ k1.sub, z _ w1 H1 x1 k1 ?_⟩
      have le : (enumP xs).length = vs.length := by
        unfold enumP
        rw [List.length_map, List.length_zip, List.length_range, ra.length]
        omega
      have W1 := walk_enum (K := X.K) (a := a) (xs := vs)
      unfold IterOf
      rw [le]
      refine ⟨fun i H2 hi s => W1.goes i H2 hi (sa _ s), fun H2 s => W1.stops H2 (sa _ s), fun i H2 v H3 hi s y => ?_⟩
      obtain ⟨T, x, e1, e2, e3, e4⟩ := y
      obtain ⟨p1, h1, q1⟩ := ra.get' (e4 _ (sa _ s))
      have hx : i < xs.length := by
        rw [← ra.length]
        exact hi
      refine ⟨.p (.tup [.int ((i : Nat) : Int), p1]), ?_, .inr ⟨T, [.int (i : Nat), x], [.int ((i : Nat) : Int), p1], rfl, e1, e2, e3, Reps.cons (by simp only [Rep]) (Reps.cons q1 Reps.nil)⟩⟩
      unfold enumP
      have hz : ((List.range xs.length).zip xs)[i]? = some (i, p1) := List.getElem?_zip_eq_some.mpr ⟨List.getElem?_range hx, h1⟩
      rw [List.getElem?_map, hz]
      rfl
    · exact z.elim
  · split at z
    · exact hq _ _ z
    · exact z.elim
end
end RB
/-! The lifted layer: split, methods without arguments. -/
namespace RB
open PySem PySem.Spec PyProof.Rows L2
theorem reps_strs {G : Glob} {I : Hp} : ∀ ys : List Str, Reps G I (ys.map V.str) (ys.map P.str)
  | [] => Reps.nil
  | y :: ys => Reps.cons (by simp only [Rep]) (reps_strs ys)
section
variable {G : Glob} {X : Cx} {W : WX} {n : Nat} {o : Expr} {apos pos : Pos} {m : Str} {mo : WE}
/-- a.split(b) -/
def dSplit (d : D) (ds : List D) (S : Store) (Q : DK) : Prop := match d, ds with
  | .p (.str a), [.p (.str b)] => (b.length == 0) = false ∧ a.length + 2 ≤ sizeLine ∧ Q (.p (.lst ((Txt.split a b).map P.str))) S
  | _, _ => False
theorem ml_split : MtL G X "str.split" dSplit := by
  refine ⟨⟨_, mt_split, fun x xs H Q w S d ds k r rs q => ?_⟩, fun d ds S Q Q' hq q => ?_⟩
  · unfold dSplit at q
    split at q
    · rename_i a b
      obtain ⟨v, rfl, rv⟩ := reps1 rs
      obtain ⟨q1, q2, q3⟩ := q
      refine ⟨a, b, rep_str.mp r, by rw [rep_str.mp rv], q1, q2, fun p hp => ?_⟩
      obtain ⟨k2, x2⟩ := k.alloc (o := .lst ((Txt.split a b).map V.str)) hp
      refine q3 (.ref p) _ _ x2 k2 ?_
      show Rep G _ (.ref p) (.lst _)
      simp only [Rep]
      exact ⟨p, _, rfl, upd_same, reps_strs _⟩
    · exact q.elim
  · unfold dSplit at q ⊢
    split at q
    · exact ⟨q.1, q.2.1, hq _ _ q.2.2⟩
    · exact q.elim
/-- o.m() -/
theorem re_meth0 {tab : List (String × DSp × (List D → List D))} {pl : Sem Bool} (C : CxG G X W n) (ht : ∀ q ∈ tab, MtC G X n m q.1 q.2.1 q.2.2) (ho : RE G X W o mo)
    (hev : eval (.Call (.Attribute o m apos) [] [] pos) X.env = (do
      let ov ← eval o X.env
      standAt apos.atName
      let (f, first) ← holding [ov] (getMethod ov m pl)
      callWith pos f first (backTo pos (starEach [] X.env)) (backToKw pos (keywordEach [] X.env))) := by rfl) : RE G X W (.Call (.Attribute o m apos) [] [] pos) (wMeth m tab mo wNil) := by
  refine ⟨⟨fun pins s σ H Q J ⟨w, S, r, ok, en, q⟩ => ?_⟩, mon_meth (fun q hq => (ht q hq).mono) ho.mono (fun _ _ _ _ _ _ hq _ h => hq _ _ h)⟩
  have h1 : tM G W mo σ H fun x H1 => ∃ (a dx : Addr) (fs : List (Str × V)) (c : String) (Ca : Addr) (t : DSp × (List D → List D)), x = .ref a ∧ G.cls c = some Ca ∧ H1 a = some (.ins Ca dx fs) ∧ fs.lookup m = none ∧ tab.lookup c = some t ∧
      ∃ w2 S2 d, Wok G w2 S2 H1 ∧ RepDs G w2 [.ref a] [d] ∧ t.1 (t.2 [d]) S2 (Qv G w2 H1 Q) (Qx G w2 H1 fun c d H' => W c d σ H') := by
    refine tM.bind ho.mono ok en q (fun _ _ _ z => z) fun d S1 x w1 H1 x1 k1 r1 z => ?_
    split at z
    · rename_i c ns vs hz
      obtain ⟨z1, t, z2, z3⟩ := z
      have mt := ht _ (lookup_mem z2)
      obtain ⟨a, Ca, fs, e1, e2, e3, e4, _⟩ := objOf_at k1 r1 hz
      subst e1
      rcases e3 with ⟨_, dx, e3⟩ | ⟨e0, _⟩
      · have hl : fs.lookup m = none := by
          rw [List.lookup_eq_none_iff]
          intro y hy
          have : y.1 ∈ ns := by
            rw [← e4]
            exact List.mem_map.mpr ⟨y, hy, rfl⟩
          have ne : m ≠ y.1 := fun e => z1 (by rw [e]; exact this)
          simpa using ne
        exact ⟨a, dx, fs, c, Ca, t, rfl, e2, e3, hl, z2, w1, S1, d, k1, ⟨r1, trivial⟩, mt.mono _ _ _ _ _ _ (fun _ _ u => u.ext x1) (fun _ _ u => u.ext x1) z3⟩
      · have := mt.isE
        simp only at this
        rw [e0] at this
        cases this
    · exact z.elim
  refine PySem.W.methodCall_KW (pl := pl) (thn (ho.pe.run pins s σ H _ J h1) fun u s1 ⟨x, H1, J1, rx, a, dx, fs, c, Ca, t, ex, hC, ea, l, lt, w2, S2, d, k2, rd, q2⟩ => ?_) hev
  subst ex
  obtain rfl : u = Value.ref a := rx
  obtain ⟨C2, g, fd, ps, k, dsv, dvs, g1, g2, g3, g4, g5, g6, g7, g8⟩ := (ht _ (lookup_mem lt)).run
  simp only at g1
  rw [hC] at g1
  cases g1
  refine getmeth_ok J1 ea g2 g3 l ?_
  have r2 : Vals ([.ref a] ++ dvs) ([.ref a] ++ dsv) := (show Vals [.ref a] [.ref a] from .cons rfl .nil).append g7
  have sv : spV G t.1 ([.ref a] ++ dvs) H1 Q fun c d H' => W c d σ H' := ⟨w2, S2, t.2 [d], k2, g8 w2 _ _ rd, q2⟩
  have hl : ([.ref a] ++ dsv : List Value).length = ps.length := by
    obtain ⟨w3, S3, es3, _, rd3, q3⟩ := id sv
    rw [← r2.length, rd3.length]
    exact g4.len _ _ _ _ q3
  exact PySem.W.callWith_K0 (first := [.ref a]) J1.kIn g3.kp (run_g (args := ⟨[.ref a], []⟩) C g4 g5 J1 (g6 s1 [.ref a] J1.kIn hl) r2 sv)
end
end RB
/-! The functional layer: what an expression does is a plain function of names' values and the store. -/
namespace RB.F
open PySem PySem.Spec PyProof.Rows L2 RB

inductive O (α : Type) where
  | ok (a : α) (S : Store)
  | ex (x : Exc) (S : Store)
  | bad
def O.bind {α β : Type} (o : O α) (k : α → Store → O β) : O β := match o with
  | .ok a S => k a S
  | .ex x S => .ex x S
  | .bad => .bad
def out {α : Type} (o : O α) (Q : α → Store → Prop) (E : EK) : Prop := match o with
  | .ok a S => Q a S
  | .ex x S => E x S
  | .bad => False
section
variable {α β : Type}
@[simp] theorem bind_ok {a : α} {S : Store} {k : α → Store → O β} : (O.ok a S).bind k = k a S := (rfl)
@[simp] theorem bind_ex {x : Exc} {S : Store} {k : α → Store → O β} : (O.ex x S : O α).bind k = .ex x S := (rfl)
@[simp] theorem bind_bad {k : α → Store → O β} : (O.bad : O α).bind k = .bad := (rfl)
@[simp] theorem out_ok {a : α} {S : Store} {Q : α → Store → Prop} {E : EK} : out (.ok a S) Q E = Q a S := (rfl)
@[simp] theorem out_ex {x : Exc} {S : Store} {Q : α → Store → Prop} {E : EK} : out (.ex x S) Q E = E x S := (rfl)
@[simp] theorem out_bad {Q : α → Store → Prop} {E : EK} : out .bad Q E = False := (rfl)
theorem out_bind {o : O α} {k : α → Store → O β} {Q : β → Store → Prop} {E : EK} : out (o.bind k) Q E = out o (fun a S => out (k a S) Q E) E := by cases o <;> rfl
theorem out_mono {o : O α} {Q Q' : α → Store → Prop} {E E' : EK} (h : out o Q E) (hq : ∀ a S, Q a S → Q' a S) (he : ∀ x S, E x S → E' x S) : out o Q' E' := by
  cases o with
  | ok a S => exact hq _ _ h
  | ex x S => exact he _ _ h
  | bad => exact h.elim
end
abbrev FN (α : Type) := Rho → Store → O α
abbrev FE := FN D
abbrev FT := FN Bool
abbrev FA := FN (List D)
abbrev FO := FN (Option Int)
def lf {α : Type} (f : FN α) : Rho → Store → (α → Store → Prop) → EK → Prop := fun r S Q E => out (f r S) Q E
theorem lf_mon {α : Type} (f : FN α) : ∀ r S (Q Q' : α → Store → Prop) E E', (∀ d S, Q d S → Q' d S) → (∀ x S, E x S → E' x S) → lf f r S Q E → lf f r S Q' E' := fun _ _ _ _ _ _ hq he h => out_mono h hq he

def RE (G : Glob) (X : Cx) (W : WX) (e : Expr) (f : FE) : Prop := RB.RE G X W e (lf f)
def RT (G : Glob) (X : Cx) (W : WX) (e : Expr) (f : FT) : Prop := RB.RT G X W e (lf f)
def RW (G : Glob) (X : Cx) (W : WX) (e : Expr) (f : FT) : Prop := RB.RW G X W e (lf f)
def RA (G : Glob) (X : Cx) (W : WX) (e : List Expr) (f : FA) : Prop := RB.RA G X W e (lf f)
def RK (G : Glob) (X : Cx) (W : WX) (e : List Keyword) (f : FA) : Prop := RB.RK G X W e (lf f)
def RO (G : Glob) (X : Cx) (W : WX) (e : Option Expr) (f : FO) : Prop := RB.RO G X W e (lf f)
def RI (G : Glob) (X : Cx) (W : WX) (tg iter : Expr) (f : FA) : Prop := RB.RI G X W tg iter (lf f)
def RTs (G : Glob) (X : Cx) (W : WX) (e : List Expr) (f : FT) : Prop := RB.RTs G X W e (lf f)
section
variable {G : Glob} {X : Cx} {W : WX} {e a b c : Expr} {pos : Pos}
theorem RE.of {m : WE} {f : FE} (h : RB.RE G X W e m) (i : ∀ r S Q E, out (f r S) Q E → m r S Q E) : RE G X W e f :=
  ⟨PE.imp h.pe fun σ H Q ⟨w, S, r, ok, en, q⟩ => ⟨w, S, r, ok, en, i _ _ _ _ q⟩, lf_mon f⟩
theorem RT.of {m : WT} {f : FT} (h : RB.RT G X W e m) (i : ∀ r S Q E, out (f r S) Q E → m r S Q E) : RT G X W e f :=
  ⟨PT.imp h.pe fun σ H Q ⟨w, S, r, ok, en, q⟩ => ⟨w, S, r, ok, en, i _ _ _ _ q⟩, lf_mon f⟩
theorem RW.of {m : WT} {f : FT} (h : RB.RW G X W e m) (i : ∀ r S Q E, out (f r S) Q E → m r S Q E) : RW G X W e f :=
  ⟨PW.imp h.pw fun σ H Q ⟨w, S, r, ok, en, q⟩ => ⟨w, S, r, ok, en, i _ _ _ _ q⟩, lf_mon f⟩
theorem RA.of {es : List Expr} {m : WA} {f : FA} (h : RB.RA G X W es m) (i : ∀ r S Q E, out (f r S) Q E → m r S Q E) : RA G X W es f :=
  ⟨PA.imp h.pe fun σ H Q ⟨w, S, r, ok, en, q⟩ => ⟨w, S, r, ok, en, i _ _ _ _ q⟩, lf_mon f⟩
theorem RK.of {es : List Keyword} {m : WA} {f : FA} (h : RB.RK G X W es m) (i : ∀ r S Q E, out (f r S) Q E → m r S Q E) : RK G X W es f :=
  ⟨PK.imp h.pk fun σ H Q ⟨w, S, r, ok, en, q⟩ => ⟨w, S, r, ok, en, i _ _ _ _ q⟩, lf_mon f⟩
theorem RO.of {es : Option Expr} {m : WO} {f : FO} (h : RB.RO G X W es m) (i : ∀ r S Q E, out (f r S) Q E → m r S Q E) : RO G X W es f :=
  ⟨PO.imp h.pe fun σ H Q ⟨w, S, r, ok, en, q⟩ => ⟨w, S, r, ok, en, i _ _ _ _ q⟩, lf_mon f⟩
theorem RI.of {tg iter : Expr} {m : WA} {f : FA} (h : RB.RI G X W tg iter m) (i : ∀ r S Q E, out (f r S) Q E → m r S Q E) : RI G X W tg iter f :=
  ⟨PI.imp h.pi fun σ H Q ⟨w, S, r, ok, en, q⟩ => ⟨w, S, r, ok, en, i _ _ _ _ q⟩, lf_mon f⟩
theorem RTs.of {es : List Expr} {m : WT} {f : FT} (h : RB.RTs G X W es m) (i : ∀ r S Q E, out (f r S) Q E → m r S Q E) : RTs G X W es f :=
  ⟨PTs.imp h.pts fun σ H Q ⟨w, S, r, ok, en, q⟩ => ⟨w, S, r, ok, en, i _ _ _ _ q⟩, lf_mon f⟩

/-! ### constants, names -/
def wC (d : D) (_ : Rho) (S : Store) : O D := .ok d S
def wVar (i : Nat) (r : Rho) (S : Store) : O D := match r[i]? with
  | some (some d) => .ok d S
  | _ => .bad
theorem re_int {i j pos} : RE G X W (.Constant (.int i) j pos) (wC (.p (.int i))) := RE.of RB.re_int fun _ _ _ _ h => h
theorem re_bl {i j pos} : RE G X W (.Constant (.bool i) j pos) (wC (.p (.bl i))) := RE.of RB.re_bl fun _ _ _ _ h => h
theorem re_str {i j pos} : RE G X W (.Constant (.str i) j pos) (wC (.p (.str i))) := RE.of RB.re_str fun _ _ _ _ h => h
theorem re_non {j pos} : RE G X W (.Constant .none j pos) (wC (.p .non)) := RE.of RB.re_non fun _ _ _ _ h => h
theorem re_gint {x : Str} {i : Int} {t : Tok} (hg : Gl X x) (hm : X.mg x = some (.int i t)) (hd : (x == ("__debug__" : Str)) = false := by decide) : RE G X W (.Name x pos) (wC (.p (.int i))) := RE.of (RB.re_gint hg hm hd) fun _ _ _ _ h => h
theorem re_gstr {x z : Str} {t : Tok} (hg : Gl X x) (hm : X.mg x = some (.str z t)) (hd : (x == ("__debug__" : Str)) = false := by decide) : RE G X W (.Name x pos) (wC (.p (.str z))) := RE.of (RB.re_gstr hg hm hd) fun _ _ _ _ h => h
theorem re_ty {x : Str} {n : String} (hg : Gl X x) (hm : X.mg x = none) (hv : bootBuiltins x = some (.type n)) (hn : x ≠ "__name__" := by decide) (hd : (x == ("__debug__" : Str)) = false := by decide) : RE G X W (.Name x pos) (wC (.p (.ty n))) :=
  RE.of (RB.re_ty hg hm hv hn hd) fun _ _ _ _ h => h
theorem re_var (i : Nat) {x : Str} {pos : Pos} (hN : X.N[i]? = some x := by rfl) (hv : Vis X.env.scope x := by first | exact Or.inl rfl | exact Or.inr (Or.inl rfl) | exact Or.inr (Or.inr rfl)) (hd : (x == ("__debug__" : Str)) = false := by decide)
    (hcd : (x == ("__classdict__" : Str)) = false := by decide) : RE G X W (.Name x pos) (wVar i) := RE.of (RB.re_var i hN hv hd hcd) fun r S Q E h => by
  unfold wVar at h
  unfold RB.wVar
  split at h
  · rename_i e
    try rw [e]
    exact h
  · exact h.elim

/-! ### two places -/
/-- a function of two values that refines a rule -/
abbrev P2 := D → D → Store → O D
abbrev Sim2 (p : P2) (d : D → D → Store → DK → Prop) : Prop := ∀ d1 d2 S Q E, out (p d1 d2 S) Q E → d d1 d2 S Q
structure OpL (G : Glob) (X : Cx) (g : Value → Value → Sem Value) (p : P2) : Prop where
  ex : ∃ d, RB.OpL G X g d ∧ Sim2 p d
structure IxL (G : Glob) (X : Cx) (p : P2) : Prop where
  ex : ∃ d, RB.IxL G X d ∧ Sim2 p d
structure UnL (G : Glob) (X : Cx) (g : Value → Sem Value) (p : D → Store → O D) : Prop where
  ex : ∃ d, RB.UnL G X g d ∧ ∀ d1 S Q E, out (p d1 S) Q E → d d1 S Q
structure CallL (G : Glob) (X : Cx) (g : Value) (p : List D → Store → O D) : Prop where
  ex : ∃ d, RB.CallL G X g d ∧ ∀ ds S Q E, out (p ds S) Q E → d ds S Q
def wBin (p : P2) (f1 f2 : FE) (r : Rho) (S : Store) : O D := (f1 r S).bind fun d1 S1 => (f2 r S1).bind fun d2 S2 => p d1 d2 S2
theorem bin_in {p : P2} {d : D → D → Store → DK → Prop} (s : Sim2 p d) {f1 f2 : FE} {r : Rho} {S : Store} {Q : DK} {E : EK} (h : out (wBin p f1 f2 r S) Q E) : RB.wBin d (lf f1) (lf f2) r S Q E := by
  unfold wBin at h
  rw [out_bind] at h
  refine out_mono h (fun d1 S1 h => ?_) fun _ _ h => h
  rw [out_bind] at h
  exact out_mono h (fun d2 S2 h => s _ _ _ _ _ h) fun _ _ h => h
theorem re_bin {op : Operator} {p : P2} (ho : OpL G X (binaryOp op) p) {f1 f2 : FE} (ha : RE G X W a f1) (hb : RE G X W b f2) : RE G X W (.BinOp a op b pos) (wBin p f1 f2) := by
  obtain ⟨d, o, s⟩ := ho.ex
  exact RE.of (RB.re_bin o ha hb) fun r S Q E h => bin_in s h
theorem re_cmp {op : CmpOp} {p : P2} (ho : OpL G X (compareOp op) p) {f1 f2 : FE} (ha : RE G X W a f1) (hb : RE G X W b f2) (hm : behindInMarks op b = false) : RE G X W (.Compare a [op] [b] pos) (wBin p f1 f2) := by
  obtain ⟨d, o, s⟩ := ho.ex
  exact RE.of (RB.re_cmp o ha hb hm) fun r S Q E h => bin_in s h
theorem re_ix {p : P2} (ho : IxL G X p) {f1 f2 : FE} (ha : RE G X W a f1) (hb : RE G X W b f2) (hs : PlainIx b := by intro _ _; rfl) : RE G X W (.Subscript a b pos) (wBin p f1 f2) := by
  obtain ⟨d, o, s⟩ := ho.ex
  exact RE.of (RB.re_ix o ha hb hs) fun r S Q E h => bin_in s h
def wUn (p : D → Store → O D) (f : FE) (r : Rho) (S : Store) : O D := (f r S).bind p
theorem re_un {op : UnaryOp} {p : D → Store → O D} (ho : UnL G X (unaryOp op) p) {f : FE} (ha : RE G X W a f) : RE G X W (.UnaryOp op a pos) (wUn p f) := by
  obtain ⟨d, o, s⟩ := ho.ex
  refine RE.of (RB.re_un o ha) fun r S Q E h => ?_
  unfold wUn at h
  rw [out_bind] at h
  exact out_mono h (fun d1 S1 h => s _ _ _ _ h) fun _ _ h => h

/-! ### arguments, calls of built-ins -/
def wNil (_ : Rho) (S : Store) : O (List D) := .ok [] S
def wCons (f : FE) (t : FA) (r : Rho) (S : Store) : O (List D) := (f r S).bind fun d S1 => (t r S1).bind fun ds S2 => .ok (d :: ds) S2
theorem ra_nil : RA G X W [] wNil := RA.of RB.ra_nil fun _ _ _ _ h => h
theorem cons_in {f : FE} {t : FA} {r : Rho} {S : Store} {Q : List D → Store → Prop} {E : EK} (h : out (wCons f t r S) Q E) : RB.wCons (lf f) (lf t) r S Q E := by
  unfold wCons at h
  rw [out_bind] at h
  refine out_mono h (fun d1 S1 h => ?_) fun _ _ h => h
  rw [out_bind] at h
  exact out_mono h (fun d2 S2 h => h) fun _ _ h => h
theorem ra_cons {f : FE} {t : FA} {es : List Expr} (ha : RE G X W e f) (hr : RA G X W es t) (hs : starEach (e :: es) X.env = (false, eval e X.env) :: starEach es X.env := by rfl) : RA G X W (e :: es) (wCons f t) :=
  RA.of (RB.ra_cons ha hr hs) fun r S Q E h => cons_in h
theorem rk_nil : RK G X W [] wNil := RK.of RB.rk_nil fun _ _ _ _ h => h
theorem rk_cons {nm : Option Str} {kpos : Pos} {kws : List Keyword} {f : FE} {t : FA} (ha : RE G X W e f) (hr : RK G X W kws t) : RK G X W (⟨nm, e, kpos⟩ :: kws) (wCons f t) :=
  RK.of (RB.rk_cons ha hr) fun r S Q E h => cons_in h
def wCB (p : List D → Store → O D) (f : FA) (r : Rho) (S : Store) : O D := (f r S).bind p
theorem cb_in {p : List D → Store → O D} {d : List D → Store → DK → Prop} (s : ∀ ds S Q E, out (p ds S) Q E → d ds S Q) {f : FA} {r : Rho} {S : Store} {Q : DK} {E : EK} (h : out (wCB p f r S) Q E) : RB.wCB d (lf f) r S Q E := by
  unfold wCB at h
  rw [out_bind] at h
  exact out_mono h (fun d1 S1 h => s _ _ _ _ h) fun _ _ h => h
theorem re_callB {x : Str} {p pos : Pos} {es : List Expr} {id : String} {q : List D → Store → O D} {f : FA} (hc : CallL G X (.builtin id) q) (hg : Gl X x) (hm : X.mg x = none) (hv : bootBuiltins x = some (.builtin id)) (ha : RA G X W (e :: es) f) (hn : x ≠ "__name__" := by decide) (hdb : (x == ("__debug__" : Str)) = false := by decide)
    (he : starEach (e :: es) X.env = (false, eval e X.env) :: starEach es X.env := by rfl) (hpl : (backTo pos (starEach es X.env)).any (·.1) = false := by rfl) : RE G X W (.Call (.Name x p) (e :: es) [] pos) (wCB q f) := by
  obtain ⟨d, o, s⟩ := hc.ex
  exact RE.of (RB.re_callB o hg hm hv ha hn hdb he hpl) fun r S Q E h => cb_in s h
theorem re_callTy {x : Str} {p pos : Pos} {es : List Expr} {T : String} {q : List D → Store → O D} {f : FA} (hc : CallL G X (.type T) q) (hg : Gl X x) (hm : X.mg x = none) (hv : bootBuiltins x = some (.type T)) (ha : RA G X W (e :: es) f) (hn : x ≠ "__name__" := by decide) (hdb : (x == ("__debug__" : Str)) = false := by decide)
    (he : starEach (e :: es) X.env = (false, eval e X.env) :: starEach es X.env := by rfl) (hpl : (backTo pos (starEach es X.env)).any (·.1) = false := by rfl) : RE G X W (.Call (.Name x p) (e :: es) [] pos) (wCB q f) := by
  obtain ⟨d, o, s⟩ := hc.ex
  exact RE.of (RB.re_callTy o hg hm hv ha hn hdb he hpl) fun r S Q E h => cb_in s h

/-! ### displays -/
def chk (b : Bool) (d : D) (S : Store) : O D := match b with
  | true => .ok d S
  | false => .bad
@[simp] theorem chk_true {d : D} {S : Store} : chk true d S = .ok d S := (rfl)
theorem chk_of {b : Bool} {d : D} {S : Store} (h : b = true) : chk b d S = .ok d S := by rw [h]; rfl
theorem out_chk {b : Bool} {d : D} {S : Store} {Q : DK} {E : EK} (h : out (chk b d S) Q E) : b = true ∧ Q d S := by
  cases b with
  | true => exact ⟨rfl, h⟩
  | false => exact h.elim
def wDisp (mk : List P → P) (f : FA) (r : Rho) (S : Store) : O D := (f r S).bind fun ds S1 => match allP ds with
  | some ps => chk (decide (ps.length ≤ sizeLine)) (.p (mk ps)) S1
  | none => .bad
theorem disp_in {mk : List P → P} {f : FA} {r : Rho} {S : Store} {Q : DK} {E : EK} (h : out (wDisp mk f r S) Q E) : RB.wDisp mk (lf f) r S Q E := by
  unfold wDisp at h
  rw [out_bind] at h
  refine out_mono h (fun ds S1 h => ?_) fun _ _ h => h
  try dsimp only at h ⊢
  split at h
  · rename_i e
    try rw [e]
    have := out_chk h
    exact ⟨of_decide_eq_true this.1, this.2⟩
  · exact h.elim
theorem re_tup {es : List Expr} {k : Nat} {f : FA} (ha : RA G X W es f) : RE G X W (.Tuple es k pos) (wDisp .tup f) := RE.of (RB.re_tup ha) fun r S Q E h => disp_in h
theorem re_lst {es : List Expr} {f : FA} (ha : RA G X W es f) : RE G X W (.List es pos) (wDisp .lst f) := RE.of (RB.re_lst ha) fun r S Q E h => disp_in h
def wNewL (f : FA) (r : Rho) (S : Store) : O D := (f r S).bind fun ds S1 => match allP ds with
  | some ps => chk (decide (ps.length ≤ sizeLine)) (.cell S1.length) (S1 ++ [.lst ps])
  | none => .bad
theorem re_newL {es : List Expr} {f : FA} (ha : RA G X W es f) : RE G X W (.List es pos) (wNewL f) := RE.of (RB.re_newL ha) fun r S Q E h => by
  unfold wNewL at h
  rw [out_bind] at h
  refine out_mono h (fun ds S1 h => ?_) fun _ _ h => h
  try dsimp only at h ⊢
  split at h
  · rename_i e
    try rw [e]
    have := out_chk h
    exact ⟨of_decide_eq_true this.1, this.2⟩
  · exact h.elim
end
end RB.F
/-! The functional layer: operators, tests, built-ins. -/
namespace RB.F
open PySem PySem.Spec PyProof.Rows L2 RB
section
variable {G : Glob} {X : Cx} {W : WX} {e a b c : Expr} {pos : Pos}
/-! ### operators -/
def dAdd (d1 d2 : D) (S : Store) : O D := match d1, d2 with
  | .p (.int i), .p (.int j) => .ok (.p (.int (i + j))) S
  | .p (.str a), .p (.str b) => chk (decide ((a.length + b.length) ≤ sizeLine)) (.p (.str (a ++ b))) S
  | .p (.tup a), .p (.tup b) => chk (decide ((a.length + b.length) ≤ sizeLine)) (.p (.tup (a ++ b))) S
  | d1, d2 => match asM S d1, asM S d2 with
    | some a, some b => chk (decide ((a.length + b.length) ≤ sizeLine)) (.p (.lst (a ++ b))) S
    | _, _ => .bad
theorem ol_add (hK : X.K = G.K) : OpL G X (binaryOp .Add) dAdd := ⟨_, RB.ol_add hK, fun d1 d2 S Q E h => by
  unfold dAdd at h
  unfold RB.dAdd
  split at h
  · exact h
  · exact ⟨of_decide_eq_true (out_chk h).1, (out_chk h).2⟩
  · exact ⟨of_decide_eq_true (out_chk h).1, (out_chk h).2⟩
  · split at h
    · rename_i n1 n2 n3 _ _ _ _ e1 e2
      have fin := (⟨of_decide_eq_true (out_chk h).1, (out_chk h).2⟩ : _ ∧ _)
      first
      | exact fin
      | (split <;> first
          | exact (n1 _ _ rfl rfl).elim
          | exact (n2 _ _ rfl rfl).elim
          | exact (n3 _ _ rfl rfl).elim
          | (rw [e1, e2]; exact fin))
    · exact h.elim⟩
/-- of two ints -/
def dInt (C : Int → Int → Bool) (g : Int → Int → P) (d1 d2 : D) (S : Store) : O D := match d1, d2 with
  | .p (.int i), .p (.int j) => chk (C i j) (.p (g i j)) S
  | _, _ => .bad
theorem ol_intF {g : Value → Value → Sem Value} {C : Int → Int → Prop} {C' : Int → Int → Bool} {f : Int → Int → P} (h : RB.OpL G X g (RB.dInt C f)) (hc : ∀ i j, C' i j = true → C i j) : OpL G X g (dInt C' f) := ⟨_, h, fun d1 d2 S Q E h => by
  unfold dInt at h
  unfold RB.dInt
  split at h
  · exact ⟨hc _ _ (out_chk h).1, (out_chk h).2⟩
  · exact h.elim⟩
abbrev yes2 : Int → Int → Bool := fun _ _ => true
abbrev dSub := dInt yes2 fun i j => .int (i - j)
abbrev dFdiv := dInt (fun _ j => decide (0 < j) && decide (j.natAbs.log2 < 9000)) fun i j => .int (i / j)
abbrev dMod := dInt (fun _ j => decide (0 < j)) fun i j => .int (i % j)
abbrev dPow := dInt (fun i j => decide (0 ≤ j) && (decide (j ≤ 1000000) && decide (i.natAbs < (2 ^ 64)))) fun i j => .int (i ^ j.toNat)
abbrev dLt := dInt yes2 fun i j => .bl (decide (i < j))
abbrev dLe := dInt yes2 fun i j => .bl (decide (i ≤ j))
abbrev dGt := dInt yes2 fun i j => .bl (decide (j < i))
abbrev dGe := dInt yes2 fun i j => .bl (decide (j ≤ i))
abbrev dMin2 := dInt yes2 fun i j => .int (if j < i then j else i)
abbrev dMax2 := dInt yes2 fun i j => .int (if j > i then j else i)
theorem ol_sub : OpL G X (binaryOp .Sub) dSub := ol_intF RB.ol_sub fun _ _ _ => trivial
theorem ol_fdiv : OpL G X (binaryOp .FloorDiv) dFdiv := ol_intF RB.ol_fdiv fun i j h => by
  simp only [Bool.and_eq_true, decide_eq_true_eq, decide_eq_true_eq] at h
  exact h
theorem ol_mod : OpL G X (binaryOp .Mod) dMod := ol_intF RB.ol_mod fun i j h => of_decide_eq_true h
theorem ol_pow : OpL G X (binaryOp .Pow) dPow := ol_intF RB.ol_pow fun i j h => by
  simp only [Bool.and_eq_true, decide_eq_true_eq, decide_eq_true_eq] at h
  exact h
theorem ol_lt : OpL G X (compareOp .Lt) dLt := ol_intF RB.ol_lt fun _ _ _ => trivial
theorem ol_le : OpL G X (compareOp .LtE) dLe := ol_intF RB.ol_le fun _ _ _ => trivial
theorem ol_gt : OpL G X (compareOp .Gt) dGt := ol_intF RB.ol_gt fun _ _ _ => trivial
theorem ol_ge : OpL G X (compareOp .GtE) dGe := ol_intF RB.ol_ge fun _ _ _ => trivial
/-- the bits of a product -/
def mulOk (i j : Int) : Bool := decide ((i.natAbs.log2 + j.natAbs.log2) < 1000000)
def dMul (d1 d2 : D) (S : Store) : O D := match d1, d2 with
  | .p (.int i), .p (.int j) => chk (mulOk i j) (.p (.int (i * j))) S
  | d1, .p (.int j) => match asM S d1 with
    | some a => chk (decide (0 ≤ j) && (decide (j < 2 ^ 63) && decide ((a.length * j.toNat) ≤ sizeLine))) (.p (.lst (List.replicate j.toNat a).flatten)) S
    | none => .bad
  | _, _ => .bad
theorem ol_mul : OpL G X (binaryOp .Mult) dMul := ⟨_, RB.ol_mul, fun d1 d2 S Q E h => by
  unfold dMul at h
  unfold RB.dMul
  split at h
  · refine ⟨.inr ?_, (out_chk h).2⟩
    have := (out_chk h).1
    unfold mulOk at this
    simp only [decide_eq_true_eq] at this
    exact this
  · split at h
    · rename_i n1 _ _ e1
      have q := out_chk h
      simp only [Bool.and_eq_true, decide_eq_true_eq, decide_eq_true_eq] at q
      first
      | exact ⟨by omega, q.1.2.1, q.1.2.2, q.2⟩
      | (split
         · exact (n1 _ rfl).elim
         · rename_i e2
           cases e2
           try rw [e1]
           exact ⟨by omega, q.1.2.1, q.1.2.2, q.2⟩
         · rename_i n2 n3
           first | exact (n3 _ _ rfl).elim | exact (n2 _ _ rfl).elim | exact (n3 _ rfl).elim | exact (n2 _ rfl).elim | simp_all)
    · exact h.elim
  · exact h.elim⟩
def dNeg (d : D) (S : Store) : O D := match d with
  | .p (.int i) => .ok (.p (.int (-i))) S
  | _ => .bad
theorem ul_neg : UnL G X (unaryOp .USub) dNeg := ⟨_, RB.ul_neg, fun d S Q E h => by
  unfold dNeg at h
  unfold RB.dNeg
  split at h
  · exact h
  · exact h.elim⟩
def dEqv (neg : Bool) (d1 d2 : D) (S : Store) : O D := match pdD S d1, pdD S d2 with
  | some e1, some e2 => chk (SeqAt.shaped e1 && SeqAt.shaped e2) (.p (.bl (if neg then !PyData.eqv e1 e2 else PyData.eqv e1 e2))) S
  | _, _ => .bad
theorem eqv_in (neg : Bool) : Sim2 (dEqv neg) (RB.dEqv neg) := fun d1 d2 S Q E h => by
  unfold dEqv at h
  unfold RB.dEqv
  split at h
  · rename_i e1 e2
    try rw [e1, e2]
    have q := out_chk h
    simp only [Bool.and_eq_true] at q
    exact ⟨q.1.1, q.1.2, q.2⟩
  · exact h.elim
theorem ol_eq (hK : X.K = G.K) (hu : X.A.units + 64 < cLine) : OpL G X (compareOp .Eq) (dEqv false) := ⟨_, RB.ol_eq hK hu, eqv_in _⟩
theorem ol_ne (hK : X.K = G.K) (hu : X.A.units + 64 < cLine) : OpL G X (compareOp .NotEq) (dEqv true) := ⟨_, RB.ol_ne hK hu, eqv_in _⟩
def dIsN (neg : Bool) (d1 d2 : D) (S : Store) : O D := match d2 with
  | .p .non => .ok (.p (.bl (if neg then !isNon d1 else isNon d1))) S
  | .p (.bl b) => match d1 with
    | .p (.bl a) => chk (!neg) (.p (.bl (decide (a = b)))) S
    | _ => .bad
  | _ => .bad
theorem isN_in (neg : Bool) : Sim2 (dIsN neg) (RB.dIsN neg) := fun d1 d2 S Q E h => by
  unfold dIsN at h
  unfold RB.dIsN
  split at h
  · exact h
  · split at h
    · exact ⟨by simpa using (out_chk h).1, (out_chk h).2⟩
    · exact h.elim
  · exact h.elim
theorem ol_isN : OpL G X (compareOp .Is) (dIsN false) := ⟨_, RB.ol_isN, isN_in _⟩
theorem ol_notN : OpL G X (compareOp .IsNot) (dIsN true) := ⟨_, RB.ol_notN, isN_in _⟩
def dInS (neg : Bool) (d1 d2 : D) (S : Store) : O D := match d1, d2 with
  | .p (.str x), .p (.str z) => match x.cps.toList with
    | [n] => .ok (.p (.bl (if neg then !decide (n ∈ z.cps.toList) else decide (n ∈ z.cps.toList)))) S
    | _ => .bad
  | _, _ => .bad
theorem inS_in (neg : Bool) : Sim2 (dInS neg) (RB.dInS neg) := fun d1 d2 S Q E h => by
  unfold dInS at h
  unfold RB.dInS
  split at h
  · split at h
    · rename_i x z _ n e
      refine ⟨n, ?_, h⟩
      cases x with
      | mk cps =>
        have : cps = #[n] := by
          apply Array.ext'
          exact e
        rw [this]
    · exact h.elim
  · exact h.elim
theorem ol_inS : OpL G X (compareOp .In) (dInS false) := ⟨_, RB.ol_inS, inS_in _⟩
theorem ol_notInS : OpL G X (compareOp .NotIn) (dInS true) := ⟨_, RB.ol_notInS, inS_in _⟩
def dInD (neg : Bool) (d1 d2 : D) (S : Store) : O D := match pdD S d1, pdD S d2 with
  | some e1, some (.list es) => chk (SeqAt.shaped e1 && SeqAt.shaped (.list es)) (.p (.bl (if neg then !es.any fun z => PyData.eqv z e1 else es.any fun z => PyData.eqv z e1))) S
  | _, _ => .bad
theorem inD_in (neg : Bool) : Sim2 (dInD neg) (RB.dInD neg) := fun d1 d2 S Q E h => by
  unfold dInD at h
  unfold RB.dInD
  split at h
  · rename_i e1 e2
    try rw [e1, e2]
    have q := out_chk h
    simp only [Bool.and_eq_true] at q
    exact ⟨q.1.1, q.1.2, q.2⟩
  · exact h.elim
theorem ol_inD (hK : X.K = G.K) (hu : X.A.units + 65 < cLine) : OpL G X (compareOp .In) (dInD false) := ⟨_, RB.ol_inD hK hu, inD_in _⟩
theorem ol_notInD (hK : X.K = G.K) (hu : X.A.units + 65 < cLine) : OpL G X (compareOp .NotIn) (dInD true) := ⟨_, RB.ol_notInD hK hu, inD_in _⟩
def dIx (d1 d2 : D) (S : Store) : O D := match d2 with
  | .p (.int i) => match d1 with
    | .p (.str z) => match atI z.cps.toList i with
      | some c => chk (decide (z.length ≤ sizeLine)) (.p (.str ⟨#[c]⟩)) S
      | none => .bad
    | .p (.tup ds) => match atI ds i with
      | some d => .ok (.p d) S
      | none => .bad
    | d1 => match asL S d1 with
      | some ds => match atI ds i with
        | some d => .ok (.p d) S
        | none => .bad
      | none => .bad
  | _ => .bad
theorem il_ix (hK : X.K = G.K) : IxL G X dIx := ⟨_, RB.il_ix hK, fun d1 d2 S Q E h => by
  unfold dIx at h
  unfold RB.dIx
  split at h
  · split at h
    · split at h
      · rename_i c e
        exact ⟨of_decide_eq_true (out_chk h).1, c, e, (out_chk h).2⟩
      · exact h.elim
    · split at h
      · rename_i c e
        exact ⟨c, e, h⟩
      · exact h.elim
    · split at h
      · rename_i n1 n2 _ _ e1
        split at h
        · rename_i c e
          try dsimp only
          first
          | exact ⟨c, e, h⟩
          | (split <;> first
              | exact (n1 _ rfl).elim
              | exact (n2 _ rfl).elim
              | (rw [e1]; exact ⟨c, e, h⟩))
        · exact h.elim
      · exact h.elim
  · exact h.elim⟩

/-! ### tests -/
def wTest (f : FE) (r : Rho) (S : Store) : O Bool := (f r S).bind fun d S1 => match d with
  | .p (.bl b) => .ok b S1
  | _ => .bad
theorem test_in {f : FE} {r : Rho} {S : Store} {Q : Bool → Store → Prop} {E : EK} (h : out (wTest f r S) Q E) : RB.wTest (lf f) r S Q E := by
  unfold wTest at h
  rw [out_bind] at h
  refine out_mono h (fun d S1 h => ?_) fun _ _ h => h
  split at h
  · exact h
  · exact h.elim
theorem rt_val {f : FE} (h : RE G X W e f) (he : ∀ whole, isTrue e X.env whole = (do let v ← whole; standAt e.pos; holding [v] (truthy v)) := by intro _; rfl) : RT G X W e (wTest f) := RT.of (RB.rt_val h he) fun r S Q E h => test_in h
theorem rt_cmp {op : CmpOp} {p : P2} (ho : OpL G X (compareOp op) p) {f1 f2 : FE} (ha : RE G X W a f1) (hb : RE G X W b f2) (hm : behindInMarks op b = false) : RT G X W (.Compare a [op] [b] pos) (wTest (wBin p f1 f2)) := by
  obtain ⟨d, o, s⟩ := ho.ex
  refine RT.of (RB.rt_cmp o ha hb hm) fun r S Q E h => ?_
  unfold RB.wTest
  refine bin_in s (E := E) ?_
  unfold wTest at h
  rw [out_bind] at h
  refine out_mono h (fun d S1 h => ?_) fun _ _ h => h
  split at h
  · exact h
  · exact h.elim
def wAnd (t u : FT) (r : Rho) (S : Store) : O Bool := (t r S).bind fun b S1 => if b = true then u r S1 else .ok false S1
def wOr (t u : FT) (r : Rho) (S : Store) : O Bool := (t r S).bind fun b S1 => if b = true then .ok true S1 else u r S1
def wNot (t : FT) (r : Rho) (S : Store) : O Bool := (t r S).bind fun b S1 => .ok (!b) S1
theorem RW.rt {f : FT} (h : RW G X W e f) : RT G X W e f := RB.RW.rt h
variable {rest : List Expr}
theorem rw_and1 {t : FT} (ha : RT G X W a t) : RW G X W (.BoolOp .And [a] pos) t := RB.rw_and1 ha
theorem rw_or1 {t : FT} (ha : RT G X W a t) : RW G X W (.BoolOp .Or [a] pos) t := RB.rw_or1 ha
theorem rw_and {t u : FT} (ha : RT G X W a t) (hb : RW G X W (.BoolOp .And (b :: rest) pos) u) : RW G X W (.BoolOp .And (a :: b :: rest) pos) (wAnd t u) := RW.of (RB.rw_and ha hb) fun r S Q E h => by
  unfold wAnd at h
  rw [out_bind] at h
  refine out_mono h (fun b S1 h => ?_) fun _ _ h => h
  cases b with
  | true => exact h
  | false => exact h
theorem rw_or {t u : FT} (ha : RT G X W a t) (hb : RW G X W (.BoolOp .Or (b :: rest) pos) u) : RW G X W (.BoolOp .Or (a :: b :: rest) pos) (wOr t u) := RW.of (RB.rw_or ha hb) fun r S Q E h => by
  unfold wOr at h
  rw [out_bind] at h
  refine out_mono h (fun b S1 h => ?_) fun _ _ h => h
  cases b with
  | true => exact h
  | false => exact h
theorem rt_not {t : FT} (ha : RT G X W a t) : RT G X W (.UnaryOp .Not a pos) (wNot t) := RT.of (RB.rt_not ha) fun r S Q E h => by
  unfold wNot at h
  rw [out_bind] at h
  exact h
def wAndV (f1 f2 : FE) (r : Rho) (S : Store) : O D := (f1 r S).bind fun d S1 => match d with
  | .p (.bl true) => f2 r S1
  | .p (.bl false) => .ok (.p (.bl false)) S1
  | _ => .bad
def wOrV (f1 f2 : FE) (r : Rho) (S : Store) : O D := (f1 r S).bind fun d S1 => match d with
  | .p (.bl true) => .ok (.p (.bl true)) S1
  | .p (.bl false) => f2 r S1
  | _ => .bad
theorem re_one {op} {f : FE} (h : RE G X W a f) : RE G X W (.BoolOp op [a] pos) f := RB.re_one h
theorem re_and {f1 f2 : FE} (ha : RE G X W a f1) (hb : RE G X W (.BoolOp .And (b :: rest) pos) f2) : RE G X W (.BoolOp .And (a :: b :: rest) pos) (wAndV f1 f2) := RE.of (RB.re_and ha hb) fun r S Q E h => by
  unfold wAndV at h
  rw [out_bind] at h
  refine out_mono h (fun b S1 h => ?_) fun _ _ h => h
  split at h
  · exact h
  · exact h
  · exact h.elim
theorem re_or {f1 f2 : FE} (ha : RE G X W a f1) (hb : RE G X W (.BoolOp .Or (b :: rest) pos) f2) : RE G X W (.BoolOp .Or (a :: b :: rest) pos) (wOrV f1 f2) := RE.of (RB.re_or ha hb) fun r S Q E h => by
  unfold wOrV at h
  rw [out_bind] at h
  refine out_mono h (fun b S1 h => ?_) fun _ _ h => h
  split at h
  · exact h
  · exact h
  · exact h.elim
def wNotV (f : FE) (r : Rho) (S : Store) : O D := (f r S).bind fun d S1 => match d with
  | .p (.bl b) => .ok (.p (.bl (!b))) S1
  | _ => .bad
theorem re_not {f : FE} (ha : RE G X W a f) : RE G X W (.UnaryOp .Not a pos) (wNotV f) := RE.of (RB.re_not ha) fun r S Q E h => by
  unfold wNotV at h
  rw [out_bind] at h
  refine out_mono h (fun b S1 h => ?_) fun _ _ h => h
  split at h
  · exact h
  · exact h.elim
def wIf (t : FT) (f1 f2 : FE) (r : Rho) (S : Store) : O D := (t r S).bind fun b S1 => if b = true then f1 r S1 else f2 r S1
theorem re_ifx {t : FT} {f1 f2 : FE} (hc : RT G X W c t) (ha : RE G X W a f1) (hb : RE G X W b f2) : RE G X W (.IfExp c a b pos) (wIf t f1 f2) := RE.of (RB.re_ifx hc ha hb) fun r S Q E h => by
  unfold wIf at h
  rw [out_bind] at h
  refine out_mono h (fun b S1 h => ?_) fun _ _ h => h
  cases b with
  | true => exact h
  | false => exact h
def wChain (p q : P2) (f1 f2 f3 : FE) (r : Rho) (S : Store) : O D := (f1 r S).bind fun d1 S1 => (f2 r S1).bind fun d2 S2 => (p d1 d2 S2).bind fun z S3 => match z with
  | .p (.bl true) => (f3 r S3).bind fun d3 S4 => q d2 d3 S4
  | .p (.bl false) => .ok (.p (.bl false)) S3
  | _ => .bad
theorem chain_in {p q : P2} {d d' : D → D → Store → DK → Prop} (s : Sim2 p d) (s' : Sim2 q d') {f1 f2 f3 : FE} {r : Rho} {S : Store} {Q : DK} {E : EK} (h : out (wChain p q f1 f2 f3 r S) Q E) : RB.wChain d d' (lf f1) (lf f2) (lf f3) r S Q E := by
  unfold wChain at h
  rw [out_bind] at h
  refine out_mono h (fun d1 S1 h => ?_) fun _ _ h => h
  rw [out_bind] at h
  refine out_mono h (fun d2 S2 h => ?_) fun _ _ h => h
  rw [out_bind] at h
  refine s _ _ _ _ E (out_mono h (fun z S3 h => ?_) fun _ _ h => h)
  split at h
  · rw [out_bind] at h
    exact out_mono h (fun d3 S4 h => s' _ _ _ _ _ h) fun _ _ h => h
  · exact h
  · exact h.elim
theorem re_chain {op op' : CmpOp} {p q : P2} (ho : OpL G X (compareOp op) p) (ho' : OpL G X (compareOp op') q) {f1 f2 f3 : FE} (ha : RE G X W a f1) (hb : RE G X W b f2) (hc : RE G X W c f3) (hm : lastMarks [op, op'] [b, c] = false := by with_unfolding_all rfl) :
    RE G X W (.Compare a [op, op'] [b, c] pos) (wChain p q f1 f2 f3) := by
  obtain ⟨d, o, s⟩ := ho.ex
  obtain ⟨d', o', s'⟩ := ho'.ex
  exact RE.of (RB.re_chain o o' ha hb hc hm) fun r S Q E h => chain_in s s' h
theorem rt_chain {op op' : CmpOp} {p q : P2} (ho : OpL G X (compareOp op) p) (ho' : OpL G X (compareOp op') q) {f1 f2 f3 : FE} (ha : RE G X W a f1) (hb : RE G X W b f2) (hc : RE G X W c f3) (hm : lastMarks [op, op'] [b, c] = false := by with_unfolding_all rfl) :
    RT G X W (.Compare a [op, op'] [b, c] pos) (wTest (wChain p q f1 f2 f3)) := by
  obtain ⟨d, o, s⟩ := ho.ex
  obtain ⟨d', o', s'⟩ := ho'.ex
  refine RT.of (RB.rt_chain o o' ha hb hc hm) fun r S Q E h => ?_
  unfold RB.wTest
  refine chain_in s s' (E := E) ?_
  unfold wTest at h
  rw [out_bind] at h
  refine out_mono h (fun d S1 h => ?_) fun _ _ h => h
  split at h
  · exact h
  · exact h.elim
end
end RB.F
/-! The functional layer: built-ins, slices, dicts, comprehensions. -/
namespace RB.F
open PySem PySem.Spec PyProof.Rows L2 RB
section
variable {G : Glob} {X : Cx} {W : WX} {e a b c : Expr} {pos : Pos}
/-! ### slices -/
def wNoP (_ : Rho) (S : Store) : O (Option Int) := .ok none S
def wPart (f : FE) (r : Rho) (S : Store) : O (Option Int) := (f r S).bind fun d S1 => match d with
  | .p (.int i) => .ok (some i) S1
  | _ => .bad
theorem ro_none : RO G X W none wNoP := RO.of RB.ro_none fun _ _ _ _ h => h
theorem ro_some {f : FE} (h : RE G X W e f) : RO G X W (some e) (wPart f) := RO.of (RB.ro_some h) fun r S Q E h => by
  unfold wPart at h
  rw [out_bind] at h
  refine out_mono h (fun d S1 h => ?_) fun _ _ h => h
  split at h
  · exact h
  · exact h.elim
def cutP {α : Type} (ds : List α) (lo hi : Option Int) : List α := (ds.drop (HT.sIx ds.length 0 lo)).take (HT.sIx ds.length ds.length hi - HT.sIx ds.length 0 lo)
def dSl (d : D) (lo hi : Option Int) (S : Store) : O D := match d with
  | .p (.str z) => chk (decide (z.length ≤ sizeLine)) (.p (.str (cutS z lo hi))) S
  | .p (.tup ds) => .ok (.p (.tup (cutP ds lo hi))) S
  | d => match asL S d with
    | some ds => .ok (.p (.lst (cutP ds lo hi))) S
    | none => .bad
def wSl (f : FE) (fl fh : FO) (r : Rho) (S : Store) : O D := (f r S).bind fun d S1 => (fl r S1).bind fun lo S2 => (fh r S2).bind fun hi S3 => dSl d lo hi S3
theorem re_slice (hK : X.K = G.K) {f : FE} {fl fh : FO} {lo hi : Option Expr} {p2 : Pos} (he : RE G X W e f) (hl : RO G X W lo fl) (hh : RO G X W hi fh) : RE G X W (.Subscript e (.Slice lo hi none p2) pos) (wSl f fl fh) := RE.of (RB.re_slice hK he hl hh) fun r S Q E h => by
  unfold wSl at h
  rw [out_bind] at h
  refine out_mono h (fun d S1 h => ?_) fun _ _ h => h
  rw [out_bind] at h
  refine out_mono h (fun lo S2 h => ?_) fun _ _ h => h
  rw [out_bind] at h
  refine out_mono h (fun hi S3 h => ?_) fun _ _ h => h
  unfold dSl at h
  unfold RB.dSl
  split at h
  · exact ⟨of_decide_eq_true (out_chk h).1, (out_chk h).2⟩
  · exact h
  · rename_i n1 n2
    split at h
    · rename_i e1
      first
      | exact h
      | (split <;> first
          | exact (n1 _ rfl).elim
          | exact (n2 _ rfl).elim
          | (rw [e1]; exact h))
    · exact h.elim
/-! ### built-ins -/
def b1 (p : D → Store → O D) (ds : List D) (S : Store) : O D := match ds with
  | [d] => p d S
  | _ => .bad
def b2 (p : P2) (ds : List D) (S : Store) : O D := match ds with
  | [d, d'] => p d d' S
  | _ => .bad
theorem CallL.f1 {g : Value} {d : D → Store → DK → Prop} {p : D → Store → O D} (h : RB.CallL G X g (RB.b1 d)) (s : ∀ d1 S Q E, out (p d1 S) Q E → d d1 S Q) : CallL G X g (b1 p) := ⟨_, h, fun ds S Q E h => by
  unfold b1 at h
  unfold RB.b1
  split at h
  · exact s _ _ _ _ h
  · exact h.elim⟩
theorem CallL.f2 {g : Value} {d : D → D → Store → DK → Prop} {p : P2} (h : RB.CallL G X g (RB.b2 d)) (s : Sim2 p d) : CallL G X g (b2 p) := ⟨_, h, fun ds S Q E h => by
  unfold b2 at h
  unfold RB.b2
  split at h
  · exact s _ _ _ _ _ h
  · exact h.elim⟩
def dLen (d : D) (S : Store) : O D := match d with
  | .p (.str z) => chk (decide (z.length ≤ sizeLine)) (.p (.int z.length)) S
  | .p (.tup ds) => .ok (.p (.int ds.length)) S
  | d => match asL S d with
    | some ds => .ok (.p (.int ds.length)) S
    | none => .bad
theorem cl_len (hK : X.K = G.K) : CallL G X (.builtin "len") (b1 dLen) := CallL.f1 (RB.cl_len hK) fun d S Q E h => by
  unfold dLen at h
  unfold RB.dLen
  split at h
  · exact ⟨of_decide_eq_true (out_chk h).1, (out_chk h).2⟩
  · exact h
  · rename_i n1 n2
    split at h
    · rename_i e1
      first
      | exact h
      | (split <;> first
          | exact (n1 _ rfl).elim
          | exact (n2 _ rfl).elim
          | (rw [e1]; exact h))
    · exact h.elim
def dI1 (g : Int → P) (d : D) (S : Store) : O D := match d with
  | .p (.int i) => .ok (.p (g i)) S
  | _ => .bad
abbrev dAbs := dI1 fun i => .int (if i < 0 then -i else i)
theorem cl_abs : CallL G X (.builtin "abs") (b1 dAbs) := CallL.f1 RB.cl_abs fun d S Q E h => by
  unfold dAbs dI1 at h
  unfold RB.dI1
  split at h
  · exact h
  · exact h.elim
def dToInt (d : D) (S : Store) : O D := match d with
  | .p (.int i) => .ok (.p (.int i)) S
  | .p (.bl b) => .ok (.p (.int (if b then 1 else 0))) S
  | _ => .bad
theorem cl_int : CallL G X (.type "int") (b1 dToInt) := CallL.f1 RB.cl_int fun d S Q E h => by
  unfold dToInt at h
  unfold RB.dToInt
  split at h
  · exact h
  · exact h
  · exact h.elim
theorem int_in {C : Int → Int → Prop} {C' : Int → Int → Bool} {f : Int → Int → P} (hc : ∀ i j, C' i j = true → C i j) : Sim2 (dInt C' f) (RB.dInt C f) := fun d1 d2 S Q E h => by
  unfold dInt at h
  unfold RB.dInt
  split at h
  · exact ⟨hc _ _ (out_chk h).1, (out_chk h).2⟩
  · exact h.elim
theorem cl_min2 (hc : X.calm = true) : CallL G X (.builtin "min") (b2 dMin2) := CallL.f2 (RB.cl_min2 hc) (int_in fun _ _ _ => trivial)
theorem cl_max2 (hc : X.calm = true) : CallL G X (.builtin "max") (b2 dMax2) := CallL.f2 (RB.cl_max2 hc) (int_in fun _ _ _ => trivial)
def dQ1 (f : List P → Store → O D) (d : D) (S : Store) : O D := match asQ S d with
  | some ds => f ds S
  | none => .bad
theorem q1_in {f : List P → Store → O D} {g : List P → Store → DK → Prop} (s : ∀ ds S Q E, out (f ds S) Q E → g ds S Q) (d : D) (S : Store) (Q : DK) (E : EK) (h : out (dQ1 f d S) Q E) : RB.dQ1 g d S Q := by
  unfold dQ1 at h
  unfold RB.dQ1
  split at h
  · rename_i e1
    try rw [e1]
    exact s _ _ _ _ h
  · exact h.elim
abbrev dListOf := dQ1 fun ds S => .ok (.p (.lst ds)) S
abbrev dListC := dQ1 fun ds S => .ok (.cell S.length) (S ++ [.lst ds])
abbrev dTupleOf := dQ1 fun ds S => .ok (.p (.tup ds)) S
theorem cl_list (hK : X.K = G.K) : CallL G X (.type "list") (b1 dListOf) := CallL.f1 (RB.cl_list hK) (q1_in fun _ _ _ _ h => h)
theorem cl_listC (hK : X.K = G.K) : CallL G X (.type "list") (b1 dListC) := CallL.f1 (RB.cl_listC hK) (q1_in fun _ _ _ _ h => h)
theorem cl_tuple (hK : X.K = G.K) : CallL G X (.type "tuple") (b1 dTupleOf) := CallL.f1 (RB.cl_tuple hK) (q1_in fun _ _ _ _ h => h)
def dBls (g : List Bool → Bool) (d : D) (S : Store) : O D := match asL S d with
  | some ds => match bls ds with
    | some bs => .ok (.p (.bl (g bs))) S
    | none => .bad
  | none => .bad
abbrev dAll := dBls fun bs => bs.all id
abbrev dAny := dBls fun bs => bs.any id
theorem bls_in {g : List Bool → Bool} (d : D) (S : Store) (Q : DK) (E : EK) (h : out (dBls g d S) Q E) : RB.dBls g d S Q := by
  unfold dBls at h
  unfold RB.dBls
  split at h
  · rename_i e1
    try rw [e1]
    split at h
    · rename_i e2
      try dsimp only
      try rw [e2]
      exact h
    · exact h.elim
  · exact h.elim
theorem cl_all (hK : X.K = G.K) (hc : X.calm = true) : CallL G X (.builtin "all") (b1 dAll) := CallL.f1 (RB.cl_all hK hc) bls_in
theorem cl_any (hK : X.K = G.K) (hc : X.calm = true) : CallL G X (.builtin "any") (b1 dAny) := CallL.f1 (RB.cl_any hK hc) bls_in
def dSum (d : D) (S : Store) : O D := match asL S d with
  | some ds => match intsP ds with
    | some bs => .ok (.p (.int bs.sum)) S
    | none => .bad
  | none => .bad
theorem cl_sum (hK : X.K = G.K) (hc : X.calm = true) : CallL G X (.builtin "sum") (b1 dSum) := CallL.f1 (RB.cl_sum hK hc) fun d S Q E h => by
  unfold dSum at h
  unfold RB.dSum
  split at h
  · rename_i e1
    try rw [e1]
    split at h
    · rename_i e2
      try dsimp only
      try rw [e2]
      exact h
    · exact h.elim
  · exact h.elim
def dJoin (d1 d2 : D) (S : Store) : O D := match d1, asQ S d2 with
  | .p (.str a), some ds => match strsP ds with
    | some ys => chk (decide (((ys.map (·.length)).sum + ys.length * a.length) ≤ 16777216)) (.p (.str (Txt.join a ys))) S
    | none => .bad
  | _, _ => .bad
def wJoin (f1 f2 : FE) (r : Rho) (S : Store) : O D := (f1 r S).bind fun d1 S1 => match d1 with
  | .p (.str a) => (f2 r S1).bind fun d2 S2 => dJoin (.p (.str a)) d2 S2
  | _ => .bad
theorem join_in {f1 f2 : FE} {r : Rho} {S : Store} {Q : DK} {E : EK} (h : out (wJoin f1 f2 r S) Q E) : RB.wJoin (lf f1) (lf f2) r S Q E := by
  unfold wJoin at h
  rw [out_bind] at h
  refine out_mono h (fun d S1 h => ?_) fun _ _ h => h
  split at h
  · rw [out_bind] at h
    refine out_mono h (fun d S1 h => ?_) fun _ _ h => h
    unfold dJoin at h
    unfold RB.dJoin
    split at h
    · rename_i e0 e1
      cases e0
      try rw [e1]
      split at h
      · rename_i e2
        try dsimp only
        try rw [e2]
        exact ⟨of_decide_eq_true (out_chk h).1, (out_chk h).2⟩
      · exact h.elim
    · exact h.elim
  · exact h.elim
theorem re_join (hK : X.K = G.K) {f1 f2 : FE} {apos pos : Pos} {o : Expr} (ho : RE G X W o f1) (he : RE G X W e f2) (hs : starEach [e] X.env = [(false, eval e X.env)] := by rfl) (hbase : attributeBase o "join" X.env (eval o X.env) = eval o X.env := by rfl) (hline : (apos.endLine == pos.line) = true := by rfl) :
    RE G X W (.Call (.Attribute o "join" apos) [e] [] pos) (wJoin f1 f2) := RE.of (RB.re_join hK ho he hs hbase hline) fun r S Q E h => join_in h
def dIsi (d d' : D) (S : Store) : O D := match d' with
  | .p (.ty T) => match tyS S d with
    | some t => chk (["bool", "int", "str", "tuple", "list", "dict"].contains T) (.p (.bl (isB t T))) S
    | none => .bad
  | _ => .bad
theorem cl_isi (hK : X.K = G.K) : CallL G X (.builtin "isinstance") (b2 dIsi) := CallL.f2 (RB.cl_isi hK) fun d1 d2 S Q E h => by
  unfold dIsi at h
  unfold RB.dIsi
  split at h
  · split at h
    · rename_i e1
      refine ⟨List.contains_iff_mem.mp (out_chk h).1, ?_⟩
      try rw [e1]
      exact (out_chk h).2
    · exact h.elim
  · exact h.elim
def wIsi2 (T T' : String) (f : FE) (r : Rho) (S : Store) : O D := (f r S).bind fun d S1 => match tyS S1 d with
  | some t => .ok (.p (.bl (isB t T || isB t T'))) S1
  | none => .bad
theorem isi2_in {T T' : String} {f : FE} {r : Rho} {S : Store} {Q : DK} {E : EK} (h : out (wIsi2 T T' f r S) Q E) : RB.wIsi2 T T' (lf f) r S Q E := by
  unfold wIsi2 at h
  rw [out_bind] at h
  refine out_mono h (fun d S1 h => ?_) fun _ _ h => h
  try dsimp only at h ⊢
  split at h
  · rename_i e1
    try rw [e1]
    exact h
  · exact h.elim
theorem re_isi2 {p pos p1 p2 p3 : Pos} {k3 : Nat} {T T' : String} {x x' : Str} {f : FE} (hK : X.K = G.K) (he : RE G X W e f) (hg : Gl X "isinstance") (hm : X.mg "isinstance" = none) (hg1 : Gl X x) (hm1 : X.mg x = none) (hv1 : bootBuiltins x = some (.type T)) (hg2 : Gl X x') (hm2 : X.mg x' = none) (hv2 : bootBuiltins x' = some (.type T'))
    (hT : T ∈ ["bool", "int", "str", "tuple", "list", "dict"] := by decide) (hT' : T' ∈ ["bool", "int", "str", "tuple", "list", "dict"] := by decide) (hn1 : x ≠ "__name__" := by decide) (hd1 : (x == ("__debug__" : Str)) = false := by decide) (hn2 : x' ≠ "__name__" := by decide) (hd2 : (x' == ("__debug__" : Str)) = false := by decide)
    (hs : starEach [e, .Tuple [.Name x p1, .Name x' p2] k3 p3] X.env = (false, eval e X.env) :: starEach [.Tuple [.Name x p1, .Name x' p2] k3 p3] X.env := by rfl) :
    RE G X W (.Call (.Name "isinstance" p) [e, .Tuple [.Name x p1, .Name x' p2] k3 p3] [] pos) (wIsi2 T T' f) := RE.of (RB.re_isi2 hK he hg hm hg1 hm1 hv1 hg2 hm2 hv2 hT hT' hn1 hd1 hn2 hd2 hs) fun r S Q E h => isi2_in h
def dRepr (d : D) (S : Store) : O D := match pxD S d with
  | some e => chk (e.showable && (decide (e.depth ≤ 60) && decide (e.shown.length ≤ sizeLine))) (.p (.str e.shown)) S
  | none => .bad
theorem cl_repr (hK : X.K = G.K) (hy : KSys X.K) (hg : X.A.guards = some []) (hu : X.A.units + 64 < cLine) : CallL G X (.builtin "repr") (b1 dRepr) := CallL.f1 (RB.cl_repr hK hy hg hu) fun d S Q E h => by
  unfold dRepr at h
  unfold RB.dRepr
  split at h
  · rename_i e1
    try rw [e1]
    have q := out_chk h
    simp only [Bool.and_eq_true, decide_eq_true_eq] at q
    exact ⟨q.1.1, q.1.2.1, q.1.2.2, q.2⟩
  · exact h.elim
/-! ### dicts -/
def dDGet (d d' : D) (S : Store) : O D := match keyOf d' with
  | some k => match d with
    | .p (.dK ks vs) => match klook ks vs k with
      | some p => .ok (.p p) S
      | none => .bad
    | .cell n => match S[n]? with
      | some (.dK ks vs) => match klook ks vs k with
        | some p => .ok (.p p) S
        | none => .bad
      | _ => .bad
    | _ => .bad
  | none => .bad
theorem re_dget {f1 f2 : FE} (hu : X.A.units + 1 < cLine) (ha : RE G X W a f1) (hb : RE G X W b f2) (hs : NoSl b := by intro _ _; rfl) : RE G X W (.Subscript a b pos) (wBin dDGet f1 f2) := RE.of (RB.re_dget hu ha hb hs) fun r S Q E h => bin_in (d := RB.dDGet) (fun d1 d2 S Q E h => by
  unfold dDGet at h
  unfold RB.dDGet
  split at h
  · rename_i e1
    try rw [e1]
    try dsimp only
    split at h
    · split at h
      · rename_i e2
        try dsimp only
        try rw [e2]
        exact h
      · exact h.elim
    · split at h
      · rename_i e2
        try dsimp only
        try rw [e2]
        split at h
        · rename_i e3
          try dsimp only
          try rw [e3]
          exact h
        · exact h.elim
      · exact h.elim
    · exact h.elim
  · exact h.elim) h
def wDNew (_ : Rho) (S : Store) : O D := .ok (.p (.dK [] [])) S
theorem re_dnew : RE G X W (.Dict [] [] pos) wDNew := RE.of RB.re_dnew fun _ _ _ _ h => h
def wPairs : List (FE × FE) → Rho → Store → O (List (D × D))
  | [], _, S => .ok [] S
  | (k, v) :: ms, r, S => (k r S).bind fun dk S1 => (v r S1).bind fun dv S2 => (wPairs ms r S2).bind fun ps S3 => .ok ((dk, dv) :: ps) S3
abbrev lf2 (ms : List (FE × FE)) : List (WE × WE) := ms.map fun p => (lf p.1, lf p.2)
theorem pairs_in : ∀ {ms : List (FE × FE)} {r : Rho} {S : Store} {Q : List (D × D) → Store → Prop} {E : EK}, out (wPairs ms r S) Q E → RB.wPairs (lf2 ms) r S Q E
  | [], _, _, _, _, h => h
  | (k, v) :: ms, r, S, Q, E, h => by
    unfold wPairs at h
    rw [out_bind] at h
    refine out_mono h (fun d S1 h => ?_) fun _ _ h => h
    rw [out_bind] at h
    refine out_mono h (fun d S1 h => ?_) fun _ _ h => h
    rw [out_bind] at h
    exact pairs_in h
def RPs (G : Glob) (X : Cx) (W : WX) (pos : Pos) (keys : List (Option Expr)) (values : List Expr) (ms : List (FE × FE)) : Prop := RB.RPs G X W pos keys values (lf2 ms)
theorem rp_nil : RPs G X W pos [] [] [] := RB.rp_nil
theorem rp_cons {k v : Expr} {ks : List (Option Expr)} {vs : List Expr} {mk mv : FE} {ms : List (FE × FE)} (hk : RE G X W k mk) (hv : RE G X W v mv) (hr : RPs G X W pos ks vs ms) : RPs G X W pos (some k :: ks) (v :: vs) ((mk, mv) :: ms) := RB.rp_cons hk hv hr
def nodupB : List Key → Bool
  | [] => true
  | k :: ks => !ks.any (fun k' => decide (k' = k)) && nodupB ks
theorem nodupB_ok : ∀ {ks : List Key}, nodupB ks = true → ks.Nodup
  | [], _ => List.nodup_nil
  | k :: ks, h => by
    unfold nodupB at h
    simp only [Bool.and_eq_true, Bool.not_eq_true', List.any_eq_false, decide_eq_true_eq] at h
    exact List.nodup_cons.mpr ⟨fun m => h.1 _ m rfl, nodupB_ok h.2⟩
def wDict (fin : List Key → List P → Store → O D) (ms : List (FE × FE)) (r : Rho) (S : Store) : O D := (wPairs ms r S).bind fun ps S1 => match kvsOf ps with
  | some (ks, vs) => if nodupB ks && decide (ks.length ≤ 15) then fin ks vs S1 else .bad
  | none => .bad
theorem dict_in {fin : List Key → List P → Store → O D} {fin' : List Key → List P → Store → DK → Prop} (s : ∀ ks vs S Q E, out (fin ks vs S) Q E → fin' ks vs S Q) {ms : List (FE × FE)} {r : Rho} {S : Store} {Q : DK} {E : EK} (h : out (wDict fin ms r S) Q E) : RB.wDict fin' (lf2 ms) r S Q E := by
  unfold wDict at h
  rw [out_bind] at h
  unfold RB.wDict
  refine pairs_in (out_mono h (fun ps S1 h => ?_) fun _ _ h => h)
  try dsimp only at h ⊢
  split at h
  · rename_i e1
    try rw [e1]
    split at h
    · rename_i e2
      simp only [Bool.and_eq_true, decide_eq_true_eq] at e2
      exact ⟨nodupB_ok e2.1, e2.2, s _ _ _ _ _ h⟩
    · exact h.elim
  · exact h.elim
abbrev wDictP := wDict fun ks vs S => .ok (.p (.dK ks vs)) S
abbrev wDictC := wDict fun ks vs S => .ok (.cell S.length) (S ++ [.dK ks vs])
theorem re_dict {keys : List (Option Expr)} {values : List Expr} {ms : List (FE × FE)} (h : RPs G X W pos keys values ms) (hall : keys.all (·.isSome) = true) (hl : keys.length = values.length) (h0 : keys ≠ []) (h15 : keys.length ≤ 15) : RE G X W (.Dict keys values pos) (wDictP ms) :=
  RE.of (RB.re_dict h hall hl h0 h15) fun r S Q E h => dict_in (fun _ _ _ _ _ h => h) h
theorem re_dictC {keys : List (Option Expr)} {values : List Expr} {ms : List (FE × FE)} (h : RPs G X W pos keys values ms) (hall : keys.all (·.isSome) = true) (hl : keys.length = values.length) (h0 : keys ≠ []) (h15 : keys.length ≤ 15) : RE G X W (.Dict keys values pos) (wDictC ms) :=
  RE.of (RB.re_dictC h hall hl h0 h15) fun r S Q E h => dict_in (fun _ _ _ _ _ h => h) h
end
end RB.F
/-! The functional layer: what is walked, comprehensions, statements. -/
namespace RB.F
open PySem PySem.Spec PyProof.Rows L2 RB
section
variable {G : Glob} {X : Cx} {W : WX} {e e2 a b c : Expr} {p pos : Pos}
/-! ### what is walked -/
def wIt (f : FE) (r : Rho) (S : Store) : O (List D) := (f r S).bind fun d S1 => match itemsOf S1 d with
  | some ds => .ok ds S1
  | none => .bad
theorem ri_seq {tg : Expr} {f : FE} (hK : X.K = G.K) (he : RE G X W e f) : RI G X W tg e (wIt f) := RI.of (RB.ri_seq hK he) fun r S Q E h => by
  unfold wIt at h
  rw [out_bind] at h
  refine out_mono h (fun d S1 h => ?_) fun _ _ h => h
  try dsimp only at h ⊢
  split at h
  · rename_i e1
    try rw [e1]
    exact h
  · exact h.elim
def chkA {α : Type} (b : Bool) (d : α) (S : Store) : O α := match b with
  | true => .ok d S
  | false => .bad
@[simp] theorem chkA_true {α : Type} {d : α} {S : Store} : chkA true d S = .ok d S := (rfl)
theorem out_chkA {α : Type} {b : Bool} {d : α} {S : Store} {Q : α → Store → Prop} {E : EK} (h : out (chkA b d S) Q E) : b = true ∧ Q d S := by
  cases b with
  | true => exact ⟨rfl, h⟩
  | false => exact h.elim
def in62 (i : Int) : Bool := decide (-(2 ^ 62) ≤ i) && decide (i < 2 ^ 62)
theorem in62_ok {i : Int} (h : in62 i = true) : -(2 ^ 62) ≤ i ∧ i < 2 ^ 62 := by
  unfold in62 at h
  simp only [Bool.and_eq_true, decide_eq_true_eq] at h
  exact h
def wRng (f : FA) (r : Rho) (S : Store) : O (List D) := (f r S).bind fun ds S1 => match ds with
  | [.p (.int j)] => chkA (in62 j) (rngD 0 j.toNat) S1
  | [.p (.int i), .p (.int j)] => chkA (in62 i && in62 j) (rngD i (j - i).toNat) S1
  | _ => .bad
theorem rng_in {f : FA} {r : Rho} {S : Store} {Q : List D → Store → Prop} {E : EK} (h : out (wRng f r S) Q E) : RB.wRng (lf f) r S Q E := by
  unfold wRng at h
  rw [out_bind] at h
  refine out_mono h (fun d S1 h => ?_) fun _ _ h => h
  split at h
  · have q := out_chkA h
    have := in62_ok q.1
    exact ⟨this.1, this.2, q.2⟩
  · have q := out_chkA h
    simp only [Bool.and_eq_true] at q
    have h1 := in62_ok q.1.1
    have h2 := in62_ok q.1.2
    exact ⟨⟨h1.1, h1.2, h2.1, h2.2⟩, q.2⟩
  · exact h.elim
theorem RB.wRng_mono' {m m' : WA} (i : ∀ r S Q E, m' r S Q E → m r S Q E) {r : Rho} {S : Store} {Q : List D → Store → Prop} {E : EK} (h : RB.wRng m' r S Q E) : RB.wRng m r S Q E := i _ _ _ _ h
theorem ri_range1 {tg : Expr} {p pos : Pos} {f : FE} (hg : Gl X "range") (hm : X.mg "range" = none) (ha : RE G X W a f) (hs : starEach [a] X.env = [(false, eval a X.env)] := by rfl) : RI G X W tg (.Call (.Name "range" p) [a] [] pos) (wRng (wCons f wNil)) := RI.of (RB.ri_range1 hg hm ha hs) fun r S Q E h =>
  RB.wRng_mono' (m' := lf (wCons f wNil)) (r := r) (S := S) (fun r S Q E h => cons_in h) (rng_in (f := wCons f wNil) h)
theorem ri_range2 {tg : Expr} {p pos : Pos} {f1 f2 : FE} (hg : Gl X "range") (hm : X.mg "range" = none) (ha : RE G X W a f1) (hb : RE G X W b f2) (hs : starEach [a, b] X.env = [(false, eval a X.env), (false, eval b X.env)] := by rfl) (hs2 : starEach [b] X.env = [(false, eval b X.env)] := by rfl) :
    RI G X W tg (.Call (.Name "range" p) [a, b] [] pos) (wRng (wCons f1 (wCons f2 wNil))) := RI.of (RB.ri_range2 hg hm ha hb hs hs2) fun r S Q E h =>
  RB.wRng_mono' (m' := lf (wCons f1 (wCons f2 wNil))) (r := r) (S := S) (fun r S Q E h => out_mono (o := f1 r S) (cons_in h) (fun d S1 h => cons_in h) fun _ _ h => h) (rng_in (f := wCons f1 (wCons f2 wNil)) h)
def wZip (f : FA) (r : Rho) (S : Store) : O (List D) := (f r S).bind fun ds S1 => match ds with
  | [d1, d2] => match zipP d1 d2 with
    | some ds => .ok ds S1
    | none => .bad
  | _ => .bad
theorem ri_zip {elts : List Expr} {kk : Nat} {tpos : Pos} {f : FA} (hK : X.K = G.K) (hg : Gl X "zip") (hm : X.mg "zip" = none) (ha : RA G X W [e, e2] f) (hs : starEach [e, e2] X.env = (false, eval e X.env) :: starEach [e2] X.env := by rfl) (hpl : (backTo pos (starEach [e2] X.env)).any (·.1) = false := by rfl) :
    RI G X W (.Tuple elts kk tpos) (.Call (.Name "zip" p) [e, e2] [] pos) (wZip f) := RI.of (RB.ri_zip hK hg hm ha hs hpl) fun r S Q E h => by
  unfold wZip at h
  rw [out_bind] at h
  refine out_mono h (fun d S1 h => ?_) fun _ _ h => h
  split at h
  · split at h
    · rename_i e1
      try dsimp only
      try rw [e1]
      exact h
    · exact h.elim
  · exact h.elim
def wEnum (f : FA) (r : Rho) (S : Store) : O (List D) := (f r S).bind fun ds S1 => match ds with
  | [.p (.lst xs)] => .ok (enumP xs) S1
  | _ => .bad
theorem ri_enum {elts : List Expr} {kk : Nat} {tpos : Pos} {f : FA} (hg : Gl X "enumerate") (hm : X.mg "enumerate" = none) (ha : RA G X W [e] f) (hs : starEach [e] X.env = [(false, eval e X.env)] := by rfl) : RI G X W (.Tuple elts kk tpos) (.Call (.Name "enumerate" p) [e] [] pos) (wEnum f) := RI.of (RB.ri_enum hg hm ha hs) fun r S Q E h => by
  unfold wEnum at h
  rw [out_bind] at h
  refine out_mono h (fun d S1 h => ?_) fun _ _ h => h
  split at h
  · exact h
  · exact h.elim
/-! ### comprehensions -/
def wYes (_ : Rho) (S : Store) : O Bool := .ok true S
theorem rts_nil : RTs G X W [] wYes := RTs.of RB.rts_nil fun _ _ _ _ h => h
theorem rts_one {t : FT} (h : RT G X W c t) : RTs G X W [c] t := RB.rts_one h
def lcF (T : Tgt) (ft : FT) (fe : FE) (r0 : Rho) : List D → Nat → Store → O (List P)
  | [], _, S => .ok [] S
  | d :: ds, n, S => match bindT T d r0 with
    | none => .bad
    | some r => match ft r S with
      | .ok true S1 => match fe r S1 with
        | .ok (.p x) S2 => match decide (n < sizeLine) with
          | true => (lcF T ft fe r0 ds (n + 1) S2).bind fun xs S3 => .ok (x :: xs) S3
          | false => .bad
        | _ => .bad
      | .ok false S1 => lcF T ft fe r0 ds n S1
      | _ => .bad
theorem lc_in {T : Tgt} {ft : FT} {fe : FE} {r0 : Rho} : ∀ {ds : List D} {acc : List P} {S : Store} {k : List P → Store → Prop} {E : EK}, out (lcF T ft fe r0 ds acc.length S) (fun ps S' => k (acc ++ ps) S') (fun _ _ => False) → RB.lcRun T (lf ft) (lf fe) r0 ds acc S k
  | [], acc, S, k, E, h => by
    unfold lcF at h
    unfold RB.lcRun
    simpa using h
  | d :: ds, acc, S, k, E, h => by
    unfold lcF at h
    unfold RB.lcRun
    split at h
    · exact h.elim
    · rename_i e1
      try rw [e1]
      try dsimp only
      split at h
      · rename_i S1 e2
        unfold lf
        rw [e2, out_ok, if_pos rfl]
        split at h
        · rename_i x S2 e3
          try rw [e3]
          split at h
          · rename_i e4
            rw [out_bind] at h
            refine ⟨by simpa [decide_eq_true_eq] using e4, lc_in (E := E) ?_⟩
            have e5 : (acc ++ [x]).length = acc.length + 1 := by simp
            try rw [e5]
            refine out_mono h (fun ps S' q => ?_) fun _ _ z => z
            have q : k (acc ++ x :: ps) S' := q
            simpa using q
          · exact h.elim
        · exact h.elim
      · rename_i S1 e2
        unfold lf
        rw [e2, out_ok, if_neg (by simp)]
        exact lc_in (E := E) h
      · exact h.elim
def noEx {α : Type} (o : O α) : O α := match o with
  | .ok a S => .ok a S
  | _ => .bad
def wLC (fi : FA) (T : Tgt) (ft : FT) (fe : FE) (vs : List Nat) (r : Rho) (S : Store) : O D := (fi r S).bind fun ds S1 => (lcF T ft fe (wipeR r vs) ds 0 S1).bind fun ps S2 => .ok (.p (.lst ps)) S2
theorem lcF_noEx {T : Tgt} {ft : FT} {fe : FE} {r0 : Rho} : ∀ {ds : List D} {n : Nat} {S : Store} {x : Exc} {S' : Store}, lcF T ft fe r0 ds n S ≠ .ex x S'
  | [], _, _, _, _ => by unfold lcF; exact fun h => by cases h
  | d :: ds, n, S, x, S' => by
    unfold lcF
    split
    · exact fun h => by cases h
    · split
      · split
        · split
          · intro h
            cases e : lcF T ft fe r0 ds (n + 1) _ with
            | ok a S1 => rw [e] at h; cases h
            | ex y S1 => exact lcF_noEx e
            | bad => rw [e] at h; cases h
          · exact fun h => by cases h
        · exact fun h => by cases h
      · exact lcF_noEx
      · exact fun h => by cases h
theorem wLC_in {fi : FA} {T : Tgt} {ft : FT} {fe : FE} {vs : List Nat} {r : Rho} {S : Store} {Q : DK} {E : EK} (h : out (wLC fi T ft fe vs r S) Q E) : RB.wLC (lf fi) T (lf ft) (lf fe) vs r S Q E := by
  unfold wLC at h
  rw [out_bind] at h
  refine out_mono h (fun d S1 h => ?_) fun _ _ h => h
  rw [out_bind] at h
  refine lc_in (E := E) (acc := []) ?_
  show out (lcF T ft fe (wipeR r vs) d 0 S1) _ _
  cases e : lcF T ft fe (wipeR r vs) d 0 S1 with
  | ok a S2 =>
    rw [e] at h
    simpa using h
  | ex y S2 => exact (lcF_noEx e).elim
  | bad => rw [e] at h; exact h.elim
theorem re_lc {elt tg iter : Expr} {ifs : List Expr} {scope : Scope} {own : List (Str × Nat)} {pos : Pos} {fi : FA} {T : Tgt} {ft : FT} {fe : FE} (hK : X.K = G.K) (hc : X.calm = true) (hN : X.N.Nodup) (hi : RI G X W tg iter fi) (ok : BlkOk X.N X.env.scope scope own) (hT : ∀ i ∈ T.slots, i ∈ own.map (·.2))
    (hg : ∀ (s : Shared) (H : Hp) (C : Addr) (cl : List (Str × Addr)) (fp : List Addr), PG (X.blk s H scope (compEnvC scope cl C X.env) fp) tg (gT X.K T)) (ht : ∀ (s : Shared) (H : Hp) (C : Addr) (cl : List (Str × Addr)) (fp : List Addr), RTs G (X.blk s H scope (compEnvC scope cl C X.env) fp) WF ifs ft)
    (he : ∀ (s : Shared) (H : Hp) (C : Addr) (cl : List (Str × Addr)) (fp : List Addr), RE G (X.blk s H scope (compEnvC scope cl C X.env) fp) WF elt fe) (hs : ∀ x, foldedSetIterable iter X.env x = pure x := by intro _; rfl) :
    RE G X W (.ListComp elt [⟨tg, iter, ifs, 0⟩] scope pos) (wLC fi T ft fe (own.map (·.2))) := RE.of (RB.re_lc hK hc hN hi ok hT hg ht he hs) fun r S Q E h => wLC_in h

/-! ### statements -/
inductive R where
  | nx (r : Rho) (S : Store)
  | rt (d : D) (S : Store)
  | bk (r : Rho) (S : Store)
  | ct (r : Rho) (S : Store)
  | ex (r : Rho) (x : Exc) (S : Store)
  | bad
def outS (o : R) (D : DE) : Prop := match o with
  | .nx r S => D.nx r S
  | .rt d S => D.rt d S
  | .bk r S => D.bk r S
  | .ct r S => D.ct r S
  | .ex r x S => D.xc r x S
  | .bad => False
abbrev FS := Rho → Store → R
def lfS (f : FS) : WS := fun D r S => outS (f r S) D
theorem outS_mono {o : R} {D D' : DE} (l : DE.le D D') (h : outS o D) : outS o D' := by
  cases o with
  | nx r S => exact l.nx _ _ h
  | rt d S => exact l.rt _ _ h
  | bk r S => exact l.bk _ _ h
  | ct r S => exact l.ct _ _ h
  | ex r x S => exact l.xc _ _ _ h
  | bad => exact h
theorem lfS_mon (f : FS) : MonS (lfS f) := fun _ _ _ _ l h => outS_mono l h
def RS (G : Glob) (X : Cx) (W : WX) (st : Stmt) (f : FS) : Prop := RB.RS G X W st (lfS f)
def RSs (G : Glob) (X : Cx) (W : WX) (st : List Stmt) (f : FS) : Prop := RB.RSs G X W st (lfS f)
theorem RS.of {st : Stmt} {m : WS} {f : FS} (h : RB.RS G X W st m) (i : ∀ D r S, outS (f r S) D → m D r S) : RS G X W st f :=
  ⟨PS.imp h.ps fun D σ H ⟨w, S, r, ok, en, q⟩ => ⟨w, S, r, ok, en, i _ _ _ q⟩, lfS_mon f⟩
theorem RSs.of {st : List Stmt} {m : WS} {f : FS} (h : RB.RSs G X W st m) (i : ∀ D r S, outS (f r S) D → m D r S) : RSs G X W st f :=
  ⟨PSs.imp h.ps fun D σ H ⟨w, S, r, ok, en, q⟩ => ⟨w, S, r, ok, en, i _ _ _ q⟩, lfS_mon f⟩
def R.seq (o : R) (f : FS) : R := match o with
  | .nx r S => f r S
  | .rt d S => .rt d S
  | .bk r S => .bk r S
  | .ct r S => .ct r S
  | .ex r x S => .ex r x S
  | .bad => .bad
@[simp] theorem seq_nx {r : Rho} {S : Store} {f : FS} : (R.nx r S).seq f = f r S := (rfl)
@[simp] theorem seq_rt {d : D} {S : Store} {f : FS} : (R.rt d S).seq f = .rt d S := (rfl)
@[simp] theorem seq_bk {r : Rho} {S : Store} {f : FS} : (R.bk r S).seq f = .bk r S := (rfl)
@[simp] theorem seq_ct {r : Rho} {S : Store} {f : FS} : (R.ct r S).seq f = .ct r S := (rfl)
@[simp] theorem seq_ex {r : Rho} {x : Exc} {S : Store} {f : FS} : (R.ex r x S).seq f = .ex r x S := (rfl)
@[simp] theorem seq_bad {f : FS} : R.bad.seq f = .bad := (rfl)
/-- an expression's part of a statement -/
def O.st {α : Type} (o : O α) (r : Rho) (k : α → Store → R) : R := match o with
  | .ok a S => k a S
  | .ex x S => .ex r x S
  | .bad => .bad
@[simp] theorem st_ok {α : Type} {a : α} {S : Store} {r : Rho} {k : α → Store → R} : (O.ok a S).st r k = k a S := (rfl)
@[simp] theorem st_ex {α : Type} {x : Exc} {S : Store} {r : Rho} {k : α → Store → R} : (O.ex x S : O α).st r k = .ex r x S := (rfl)
@[simp] theorem st_bad {α : Type} {r : Rho} {k : α → Store → R} : (O.bad : O α).st r k = .bad := (rfl)
theorem outS_st {α : Type} {o : O α} {r : Rho} {k : α → Store → R} {D : DE} : outS (o.st r k) D = out o (fun a S => outS (k a S) D) (D.xc r) := by cases o <;> rfl
def wNext (r : Rho) (S : Store) : R := .nx r S
def wSeq (f1 f2 : FS) (r : Rho) (S : Store) : R := (f1 r S).seq f2
variable {st : Stmt} {rest : List Stmt}
theorem rss_nil : RSs G X W [] wNext := RSs.of RB.rss_nil fun _ _ _ h => h
theorem outS_seq {o : R} {f : FS} {D : DE} : outS (o.seq f) D = outS o { D with nx := fun r S => outS (f r S) D } := by cases o <;> rfl
theorem rss_cons {f1 f2 : FS} (h1 : RS G X W st f1) (h2 : RSs G X W rest f2) : RSs G X W (st :: rest) (wSeq f1 f2) := RSs.of (RB.rss_cons h1 h2) fun D r S h => by
  unfold wSeq at h
  rw [outS_seq] at h
  exact h
theorem rss_one {f : FS} (h : RS G X W st f) : RSs G X W [st] f := RB.rss_one h
def wBreak (r : Rho) (S : Store) : R := .bk r S
def wCont (r : Rho) (S : Store) : R := .ct r S
theorem rs_pass : RS G X W (.Pass pos) wNext := RS.of RB.rs_pass fun _ _ _ h => h
theorem rs_break : RS G X W (.Break pos) wBreak := RS.of RB.rs_break fun _ _ _ h => h
theorem rs_cont : RS G X W (.Continue pos) wCont := RS.of RB.rs_cont fun _ _ _ h => h
def wRet (f : FE) (r : Rho) (S : Store) : R := (f r S).st r fun d S1 => .rt d S1
theorem rs_ret {f : FE} (h : RE G X W e f) : RS G X W (.Return (some e) pos) (wRet f) := RS.of (RB.rs_ret h) fun D r S h => by
  unfold wRet at h
  rw [outS_st] at h
  exact h
def wRetN (_ : Rho) (S : Store) : R := .rt (.p .non) S
theorem rs_retN : RS G X W (.Return none pos) wRetN := RS.of RB.rs_retN fun _ _ _ h => h
def wDrop (f : FE) (r : Rho) (S : Store) : R := (f r S).st r fun _ S1 => .nx r S1
theorem rs_expr {f : FE} (h : RE G X W e f) (hs : swapsWith e none pos.line X.env = pure false := by rfl) : RS G X W (.Expr e pos) (wDrop f) := RS.of (RB.rs_expr h hs) fun D r S h => by
  unfold wDrop at h
  rw [outS_st] at h
  exact h
def wSet (i : Nat) (f : FE) (r : Rho) (S : Store) : R := (f r S).st r fun d S1 => .nx (r.set i (some d)) S1
theorem set_in {i : Nat} {f : FE} {D : DE} {r : Rho} {S : Store} (h : outS (wSet i f r S) D) : RB.wSet i (lf f) D r S := by
  unfold wSet at h
  rw [outS_st] at h
  exact h
theorem rs_set {i : Nat} {x : Str} {pos' : Pos} {f : FE} (hN : X.N.Nodup) (hi : X.N[i]? = some x) (hx : Loc X.env.scope x) (h : RE G X W e f) (hs : swapsWith e (some (.Name x pos')) pos.line X.env = pure false := by rfl) (hf : X.fn x = true ∨ X.env.scope.names.lookup x = some .local := by first | exact .inl rfl | exact .inr rfl | assumption) :
    RS G X W (.Assign [.Name x pos'] e pos) (wSet i f) := RS.of (RB.rs_set hN hi hx h hs hf) fun D r S h => set_in h
theorem rs_setLc {i : Nat} {y : Str} {py spos : Pos} {elt tg iter : Expr} {ifs : List Expr} {scope : Scope} {own : List (Str × Nat)} {pos : Pos} {fi : FA} {T : Tgt} {ft : FT} {fe : FE} (hK : X.K = G.K) (hc : X.calm = true) (hN : X.N.Nodup) (hy : X.N[i]? = some y) (hyl : X.env.scope.names.lookup y = some .local)
    (hsw : swapsWith (.ListComp elt [⟨tg, iter, ifs, 0⟩] scope pos) (some (.Name y py)) spos.line X.env = pure true) (hi : RI G X W tg iter fi) (ok : BlkOk X.N X.env.scope scope own) (hT : ∀ i ∈ T.slots, i ∈ own.map (·.2))
    (hg : ∀ (s : Shared) (H : Hp) (C : Addr) (cl : List (Str × Addr)) (fp : List Addr), PG (X.blk s H scope (compEnvC scope cl C X.env) fp) tg (gT X.K T)) (ht : ∀ (s : Shared) (H : Hp) (C : Addr) (cl : List (Str × Addr)) (fp : List Addr), RTs G (X.blk s H scope (compEnvC scope cl C X.env) fp) WF ifs ft)
    (he : ∀ (s : Shared) (H : Hp) (C : Addr) (cl : List (Str × Addr)) (fp : List Addr), RE G (X.blk s H scope (compEnvC scope cl C X.env) fp) WF elt fe) (hs : ∀ x, foldedSetIterable iter X.env x = pure x := by intro _; rfl) :
    RS G X W (.Assign [.Name y py] (.ListComp elt [⟨tg, iter, ifs, 0⟩] scope pos) spos) (wSet i (wLC fi T ft fe (own.map (·.2)))) := RS.of (RB.rs_setLc hK hc hN hy hyl hsw hi ok hT hg ht he hs) fun D r S h => by
  unfold wSet at h
  rw [outS_st] at h
  exact wLC_in h
def wIfS (t : FT) (f1 f2 : FS) (r : Rho) (S : Store) : R := (t r S).st r fun b S1 => if b = true then f1 r S1 else f2 r S1
theorem rs_if {t : FT} {f1 f2 : FS} {bd el : List Stmt} (hc : RT G X W c t) (h1 : RSs G X W bd f1) (h2 : RSs G X W el f2) : RS G X W (.If c bd el pos) (wIfS t f1 f2) := RS.of (RB.rs_if hc h1 h2) fun D r S h => by
  unfold wIfS at h
  rw [outS_st] at h
  refine out_mono h (fun b S1 h => ?_) fun _ _ h => h
  cases b with
  | true => exact h
  | false => exact h
def forF (T : Tgt) (f : FS) : List D → Rho → Store → R
  | [], r, S => .nx r S
  | d :: ds, r, S => match bindT T d r with
    | none => .bad
    | some r' => match f r' S with
      | .nx r2 S2 => forF T f ds r2 S2
      | .ct r2 S2 => forF T f ds r2 S2
      | .bk r2 S2 => .nx r2 S2
      | .rt d S2 => .rt d S2
      | .ex r x S2 => .ex r x S2
      | .bad => .bad
theorem forF_in {T : Tgt} {f : FS} {D : DE} : ∀ {ds : List RB.D} {r : Rho} {S : Store}, outS (forF T f ds r S) D → RB.forRun T (lfS f) D ds r S
  | [], r, S, h => h
  | d :: ds, r, S, h => by
    unfold forF at h
    unfold RB.forRun
    split at h
    · exact h.elim
    · rename_i r' e
      try rw [e]
      show outS (f r' S) _
      split at h
      · rename_i e2; try rw [e2]; exact forF_in h
      · rename_i e2; try rw [e2]; exact forF_in h
      · rename_i e2; try rw [e2]; exact h
      · rename_i e2; try rw [e2]; exact h
      · rename_i e2; try rw [e2]; exact h
      · exact h.elim
def wFor (fi : FA) (T : Tgt) (f : FS) (r : Rho) (S : Store) : R := (fi r S).st r fun ds S1 => forF T f ds r S1
theorem rs_for {tg iter : Expr} {body : List Stmt} {fi : FA} {T : Tgt} {f : FS} (hK : X.K = G.K) (hp : PassesOwn (model X.prog X.w) X.A X.env X.xe) (hc : X.calm = true) (hi : RI G X W tg iter fi) (hg : PG X tg (gT X.K T)) (hb : RSs G X W body f)
    (hs : ∀ x, foldedSetIterable iter X.env x = pure x := by intro _; rfl) : RS G X W (.For tg iter body [] pos) (wFor fi T f) := RS.of (RB.rs_for hK hp hc hi hg hb hs) fun D r S h => by
  unfold wFor at h
  rw [outS_st] at h
  exact out_mono h (fun ds S1 h => forF_in h) fun _ _ h => h
def whileF (t : FT) (f : FS) : Nat → Rho → Store → R
  | 0, _, _ => .bad
  | n + 1, r, S => (t r S).st r fun b S1 => if b = true then (match f r S1 with
      | .nx r2 S2 => whileF t f n r2 S2
      | .ct r2 S2 => whileF t f n r2 S2
      | .bk r2 S2 => .nx r2 S2
      | .rt d S2 => .rt d S2
      | .ex r x S2 => .ex r x S2
      | .bad => .bad) else .nx r S1
def wWhile (t : FT) (f : FS) (r : Rho) (S : Store) : R := whileF t f (2 ^ 40) r S
theorem rs_while {t : FT} {f : FS} {body : List Stmt} (hp : PassesOwn (model X.prog X.w) X.A X.env X.xe) (hc : RT G X W c t) (hb : RSs G X W body f) : RS G X W (.While c body [] pos) (wWhile t f) := RS.of (RB.rs_while hp hc hb) fun D r S h => by
  refine ⟨fun m r S => outS (whileF t f m r S) D, ⟨2 ^ 40, h⟩, fun m r S h => ?_⟩
  cases m with
  | zero => exact h.elim
  | succ m =>
    unfold whileF at h
    rw [outS_st] at h
    refine out_mono h (fun b S1 h => ?_) fun _ _ h => h
    cases b with
    | false => exact h
    | true =>
      rw [if_pos rfl] at h
      refine iteT ?_
      show outS (f r S1) _
      split at h
      · rename_i e2; try rw [e2]; exact ⟨m, Nat.lt_succ_self m, h⟩
      · rename_i e2; try rw [e2]; exact ⟨m, Nat.lt_succ_self m, h⟩
      · rename_i e2; try rw [e2]; exact h
      · rename_i e2; try rw [e2]; exact h
      · rename_i e2; try rw [e2]; exact h
      · exact h.elim
end
end RB.F
/-! The functional layer: things that change, errors, defs, calls, classes. -/
namespace RB.F
open PySem PySem.Spec PyProof.Rows L2 RB
section
variable {G : Glob} {X : Cx} {W : WX} {n k : Nat} {o e value : Expr} {es : List Expr} {p pos pos' apos : Pos} {f m : Str}
/-! ### things that change -/
def outK {α : Type} (o : O α) (K : Store → Prop) : Prop := match o with
  | .ok _ S => K S
  | _ => False
def wPut3 (p : D → D → D → Store → O Unit) (fo fi fv : FE) (r : Rho) (S : Store) : R := (fv r S).st r fun dv S1 => (fo r S1).st r fun d S2 => (fi r S2).st r fun di S3 => (p d di dv S3).st r fun _ S4 => .nx r S4
def dDPut (d dk dv : D) (S : Store) : O Unit := match keyOf dk, d, dv with
  | some k, .cell n, .p v => match S[n]? with
    | some (.dK ks vs) => if decide (ks.length < sizeLine) then (if (ks.any fun k' => decide (k' = k)) = true then .ok () (S.set n (.dK ks (kset ks vs k v))) else .ok () (S.set n (.dK (ks ++ [k]) (vs ++ [v])))) else .bad
    | _ => .bad
  | _, _, _ => .bad
abbrev wDPut := wPut3 dDPut
theorem put3_in {p : D → D → D → Store → O Unit} {q : D → D → D → Store → (Store → Prop) → Prop} (s : ∀ d di dv S K E, out (p d di dv S) (fun _ S => K S) E → q d di dv S K) {fo fi fv : FE} {D : DE} {r : Rho} {S : Store} (h : outS (wPut3 p fo fi fv r S) D) :
    out (fv r S) (fun dv S1 => out (fo r S1) (fun d S2 => out (fi r S2) (fun di S3 => q d di dv S3 (fun S4 => D.nx r S4)) (D.xc r)) (D.xc r)) (D.xc r) := by
  unfold wPut3 at h
  rw [outS_st] at h
  refine out_mono h (fun _ _ h => ?_) fun _ _ h => h
  rw [outS_st] at h
  refine out_mono h (fun _ _ h => ?_) fun _ _ h => h
  rw [outS_st] at h
  refine out_mono h (fun _ _ h => ?_) fun _ _ h => h
  rw [outS_st] at h
  exact s _ _ _ _ _ _ h
theorem rs_dput {i : Expr} {fo fi fv : FE} (hu : X.A.units + 1 < cLine) (ho : RE G X W o fo) (hi : RE G X W i fi) (hv : RE G X W value fv) (hs : swapsWith value (some (.Subscript o i pos')) pos.line X.env = pure false := by rfl) :
    RS G X W (.Assign [.Subscript o i pos'] value pos) (wDPut fo fi fv) := RS.of (RB.rs_dput hu ho hi hv hs) fun D r S h => put3_in (q := RB.dDPut) (fun d di dv S K E h => by
  unfold dDPut at h
  unfold RB.dDPut
  split at h
  · rename_i e1
    try rw [e1]
    split at h
    · rename_i e2
      try dsimp only
      try rw [e2]
      split at h
      · rename_i e3
        refine ⟨by simpa [decide_eq_true_eq] using e3, ?_⟩
        split at h
        · rename_i e4
          rw [if_pos e4]
          exact h
        · rename_i e4
          rw [if_neg e4]
          exact h
      · exact h.elim
    · exact h.elim
  · exact h.elim) h
def dLPut (d di dv : D) (S : Store) : O Unit := match d, di, dv with
  | .cell n, .p (.int i), .p v => match S[n]? with
    | some (.lst ps) => match ixN ps.length i with
      | some j => .ok () (S.set n (.lst (ps.set j v)))
      | none => .bad
    | _ => .bad
  | _, _, _ => .bad
abbrev wLPut := wPut3 dLPut
theorem rs_lput {i : Expr} {fo fi fv : FE} (ho : RE G X W o fo) (hi : RE G X W i fi) (hv : RE G X W value fv) (hs : swapsWithSole [.Subscript o i pos'] value pos.line X.env = pure false := by rfl) (hw : swappedStores [.Subscript o i pos'] value X.env = pure none := by rfl)
    (h1 : (assignEach [.Subscript o i pos'] X.env).map (·.2) = [assign (.Subscript o i pos') X.env] := by rfl)
    (ha : ∀ v, assign (.Subscript o i pos') X.env v = (do
      let ov ← holding [v] (eval o X.env)
      let iv ← holding [v, ov] (eval i X.env)
      standAt pos'
      holding [v, ov, iv] (setItem ov iv v)
      release [v, ov, iv] []) := by intro _; rfl) : RS G X W (.Assign [.Subscript o i pos'] value pos) (wLPut fo fi fv) := RS.of (RB.rs_lput ho hi hv hs hw h1 ha) fun D r S h => put3_in (q := RB.dLPut) (fun d di dv S K E h => by
  unfold dLPut at h
  unfold RB.dLPut
  split at h
  · split at h
    · rename_i e2
      try dsimp only
      try rw [e2]
      split at h
      · rename_i j e3
        exact ⟨j, e3, h⟩
      · exact h.elim
    · exact h.elim
  · exact h.elim) h
def dFSet (cs : List String) (f : Str) (d dv : D) (S : Store) : O Unit := match d, dv with
  | .cell n, .p v => match S[n]? with
    | some (.obj c ns vs) => if cs.contains c && decide (ns.length < 900) then .ok () (S.set n (.obj c (fputN f ns) (fputV f v ns vs))) else .bad
    | _ => .bad
  | _, _ => .bad
def wFSet (cs : List String) (f : Str) (fo fv : FE) (r : Rho) (S : Store) : R := (fv r S).st r fun dv S1 => (fo r S1).st r fun d S2 => (dFSet cs f d dv S2).st r fun _ S3 => .nx r S3
theorem rs_fset {cs : List String} {fo fv : FE} (hc : ∀ c ∈ cs, ∀ C, G.cls c = some C → Cls X.K C ∧ NoAttr X.K C f) (ho : RE G X W o fo) (hv : RE G X W value fv) (hs : swapsWith value (some (.Attribute o f pos')) pos.line X.env = pure false := by rfl) :
    RS G X W (.Assign [.Attribute o f pos'] value pos) (wFSet cs f fo fv) := RS.of (RB.rs_fset hc ho hv hs) fun D r S h => by
  unfold wFSet at h
  rw [outS_st] at h
  refine out_mono h (fun _ _ h => ?_) fun _ _ h => h
  rw [outS_st] at h
  refine out_mono h (fun _ _ h => ?_) fun _ _ h => h
  rw [outS_st] at h
  unfold dFSet at h
  unfold RB.dFSet
  split at h
  · split at h
    · rename_i e2
      try dsimp only
      try rw [e2]
      split at h
      · rename_i e3
        simp only [Bool.and_eq_true, decide_eq_true_eq, List.contains_iff_mem] at e3
        exact ⟨e3.1, e3.2, h⟩
      · exact h.elim
    · exact h.elim
  · exact h.elim
/-! ### a, b = x, y -/
def wPar2 (i j : Nat) (fa : FA) (r : Rho) (S : Store) : R := (fa r S).st r fun ds S1 => match ds with
  | [d1, d2] => .nx ((r.set i (some d1)).set j (some d2)) S1
  | _ => .bad
def wPar3 (i j l : Nat) (fa : FA) (r : Rho) (S : Store) : R := (fa r S).st r fun ds S1 => match ds with
  | [d1, d2, d3] => .nx (((r.set i (some d1)).set j (some d2)).set l (some d3)) S1
  | _ => .bad
theorem rs_par2 {fa : FA} {i j : Nat} {x y : Str} {a b : Expr} {px py pt : Pos} {kt k2 pt2} (hc : X.calm = true) (hN : X.N.Nodup) (hi : X.N[i]? = some x) (hj : X.N[j]? = some y) (hij : i ≠ j) (hx : X.env.scope.names.lookup x = some .local) (hy : X.env.scope.names.lookup y = some .local) (ha : RA G X W [a, b] fa)
    (hw : swappedStores [.Tuple [.Name x px, .Name y py] kt pt] (.Tuple [a, b] k2 pt2) X.env = pure (some [x, y]) := by rfl) (hs : swapsWithSole [.Tuple [.Name x px, .Name y py] kt pt] (.Tuple [a, b] k2 pt2) pos.line X.env = pure false := by rfl) :
    RS G X W (.Assign [.Tuple [.Name x px, .Name y py] kt pt] (.Tuple [a, b] k2 pt2) pos) (wPar2 i j fa) := RS.of (RB.rs_par2 hc hN hi hj hij hx hy ha hw hs) fun D r S h => by
  unfold wPar2 at h
  rw [outS_st] at h
  refine out_mono h (fun _ _ h => ?_) fun _ _ h => h
  split at h
  · exact h
  · exact h.elim
theorem rs_par3 {fa : FA} {i j l : Nat} {x y z : Str} {a b c : Expr} {px py pz pt : Pos} {kt k2 pt2} (hc : X.calm = true) (hN : X.N.Nodup) (hi : X.N[i]? = some x) (hj : X.N[j]? = some y) (hl : X.N[l]? = some z) (hij : i ≠ j) (hil : i ≠ l) (hjl : j ≠ l)
    (hx : X.env.scope.names.lookup x = some .local) (hy : X.env.scope.names.lookup y = some .local) (hz : X.env.scope.names.lookup z = some .local) (ha : RA G X W [a, b, c] fa)
    (hw : swappedStores [.Tuple [.Name x px, .Name y py, .Name z pz] kt pt] (.Tuple [a, b, c] k2 pt2) X.env = pure (some [x, y, z]) := by rfl) (hs : swapsWithSole [.Tuple [.Name x px, .Name y py, .Name z pz] kt pt] (.Tuple [a, b, c] k2 pt2) pos.line X.env = pure false := by rfl) :
    RS G X W (.Assign [.Tuple [.Name x px, .Name y py, .Name z pz] kt pt] (.Tuple [a, b, c] k2 pt2) pos) (wPar3 i j l fa) := RS.of (RB.rs_par3 hc hN hi hj hl hij hil hjl hx hy hz ha hw hs) fun D r S h => by
  unfold wPar3 at h
  rw [outS_st] at h
  refine out_mono h (fun _ _ h => ?_) fun _ _ h => h
  split at h
  · exact h
  · exact h.elim
def wAsgT (is : List Nat) (f : FE) (r : Rho) (S : Store) : R := (f r S).st r fun d S1 => match seqD S1 d with
  | some ps => if decide (ps.length = is.length) then .nx (setAll is ps r) S1 else .bad
  | none => .bad
theorem rs_asgT {fe : FE} {is : List Nat} {es : List Expr} {k : Nat} {tp : Pos} (hK : X.K = G.K) (hc : X.calm = true) (he : RE G X W e fe) (hg : PGs X es (gNames is)) (hn : (assignEach es X.env).length = is.length := by rfl) (hst : (assignEach es X.env).findIdx? (·.1) = none := by rfl)
    (hs : swapsWithSole [.Tuple es k tp] e pos.line X.env = pure false := by rfl) (hw : swappedStores [.Tuple es k tp] e X.env = pure none := by rfl) (h1 : (assignEach [.Tuple es k tp] X.env).map (·.2) = [assign (.Tuple es k tp) X.env] := by rfl) :
    RS G X W (.Assign [.Tuple es k tp] e pos) (wAsgT is fe) := RS.of (RB.rs_asgT hK hc he hg hn hst hs hw h1) fun D r S h => by
  unfold wAsgT at h
  rw [outS_st] at h
  refine out_mono h (fun _ _ h => ?_) fun _ _ h => h
  try dsimp only at h ⊢
  split at h
  · rename_i e1
    try rw [e1]
    split at h
    · rename_i e2
      exact ⟨of_decide_eq_true e2, h⟩
    · exact h.elim
  · exact h.elim
/-! ### errors -/
def wRaise (c : String) (fs : List Str) (fa : FA) (r : Rho) (S : Store) : R := (fa r S).st r fun ds S1 => match allP ds with
  | some ps => if decide (ps.length = fs.length) && decide (fs.length ≤ 900) then .ex r ⟨c, fs.reverse, ps.reverse⟩ S1 else .bad
  | none => .bad
theorem rs_raise {x : Str} {fI Cc : Addr} {fd : FuncData} {ps fs : List Str} {c : String} {fa : FA} (C : CxG G X W n) (T : ExK X.K Cc fI fs) (F : FnOk X.prog X.w X.K X.mg X.base (L2.CX X.prog X.w) k fI fd ps (spI X.K fs)) (hk : k + 1 ≤ n) (hb : Binds X.K fd ps []) (hg : Gl X x) (hm : X.mg x = some (.ref Cc)) (hc : G.cls c = some Cc) (hi : G.isE c = true) (ha : RA G X W (e :: es) fa)
    (hdb : (x == ("__debug__" : Str)) = false := by decide) (he : starEach (e :: es) X.env = (false, eval e X.env) :: starEach es X.env := by rfl) (hpl : (backTo pos (starEach es X.env)).any (·.1) = false := by rfl) :
    RS G X W (.Raise (some (.Call (.Name x p) (e :: es) [] pos)) none pos') (wRaise c fs fa) := RS.of (RB.rs_raise C T F hk hb hg hm hc hi ha hdb he hpl) fun D r S h => by
  unfold wRaise at h
  rw [outS_st] at h
  refine out_mono h (fun _ _ h => ?_) fun _ _ h => h
  try dsimp only at h ⊢
  split at h
  · rename_i e1
    try rw [e1]
    split at h
    · rename_i e2
      simp only [Bool.and_eq_true, decide_eq_true_eq] at e2
      exact ⟨e2.1, e2.2, h⟩
    · exact h.elim
  · exact h.elim
def R.gone (o : R) (i : Nat) : R := match o with
  | .nx r S => .nx (r.set i none) S
  | .rt d S => .rt d S
  | .bk r S => .bk (r.set i none) S
  | .ct r S => .ct (r.set i none) S
  | _ => .bad
abbrev Hds := List ((String → Bool) × Nat × FS)
def wPick : Hds → Rho → Exc → Store → R
  | [], r, x, S => .ex r x S
  | (t, i, f) :: l, r, x, S => if t x.c = true then (f (r.set i (some (.p (.obj x.c x.ns x.vs)))) S).gone i else wPick l r x S
def R.tryE (o : R) (hs : Hds) : R := match o with
  | .ex r x S => wPick hs r x S
  | .nx r S => .nx r S
  | .rt d S => .rt d S
  | .bk r S => .bk r S
  | .ct r S => .ct r S
  | .bad => .bad
@[simp] theorem try_ex {r : Rho} {x : Exc} {S : Store} {hs : Hds} : (R.ex r x S).tryE hs = wPick hs r x S := (rfl)
@[simp] theorem try_nx {r : Rho} {S : Store} {hs : Hds} : (R.nx r S).tryE hs = .nx r S := (rfl)
@[simp] theorem try_rt {d : D} {S : Store} {hs : Hds} : (R.rt d S).tryE hs = .rt d S := (rfl)
@[simp] theorem gone_nx {r : Rho} {S : Store} {i : Nat} : (R.nx r S).gone i = .nx (r.set i none) S := (rfl)
@[simp] theorem gone_rt {d : D} {S : Store} {i : Nat} : (R.rt d S).gone i = .rt d S := (rfl)
def wTry (f : FS) (hs : Hds) (r : Rho) (S : Store) : R := (f r S).tryE hs
abbrev lfH (hs : Hds) : List ((String → Bool) × Nat × WS) := hs.map fun q => (q.1, q.2.1, lfS q.2.2)
theorem pick_in {D : DE} : ∀ {hs : Hds} {r : Rho} {x : Exc} {S : Store}, outS (wPick hs r x S) D → RB.wPick (lfH hs) D r x S
  | [], r, x, S, h => h
  | (t, i, f) :: l, r, x, S, h => by
    unfold wPick at h
    show RB.wPick ((t, i, lfS f) :: lfH l) D r x S
    unfold RB.wPick
    split at h
    · rename_i e1
      rw [if_pos e1]
      show outS (f _ S) _
      cases e : f (r.set i (some (.p (.obj x.c x.ns x.vs)))) S with
      | nx r S => rw [e] at h; exact h
      | rt d S => rw [e] at h; exact h
      | bk r S => rw [e] at h; exact h
      | ct r S => rw [e] at h; exact h
      | ex r x S => rw [e] at h; exact h.elim
      | bad => rw [e] at h; exact h.elim
    · rename_i e1
      rw [if_neg e1]
      exact pick_in h
abbrev HdF (G : Glob) (X : Cx) (hds : List ExceptHandler) (l : List (List Value × Nat × TS)) (hs : Hds) : Prop := HdL G X hds l (lfH hs)
theorem hd_nil : HdF G X [] [] [] := .nil
theorem hd_cons {x nm : Str} {c : Value} {i : Nat} {t : String → Bool} {ms : FS} {b0 : Stmt} {su : List Stmt} {np hp : Pos} {hds : List ExceptHandler} {l : List (List Value × Nat × TS)} {hs : Hds} (hi : X.N[i]? = some nm) (hl : X.env.kindOf nm = some .local) (hc : Names X x c)
      (hx : ∀ y C, G.cls y = some C → PySem.W.exmOne X.K (.ref C) c = some (t y)) (hsu : ∀ a, RSs G (hotX X a) WF (b0 :: su) ms) (r : HdF G X hds l hs) : HdF G X (.ExceptHandler (some (.Name x np)) (some nm) (b0 :: su) hp :: hds) (([c], i, tMs G WF (lfS ms)) :: l) ((t, i, ms) :: hs) := HdL.cons hi hl hc hx hsu r
theorem hd_consT {x1 x2 x3 x4 nm : Str} {c1 c2 c3 c4 : Value} {i k : Nat} {t : String → Bool} {ms : FS} {b0 : Stmt} {su : List Stmt} {p1 p2 p3 p4 np hp : Pos} {hds : List ExceptHandler} {l : List (List Value × Nat × TS)} {hs : Hds} (hi : X.N[i]? = some nm) (hl : X.env.kindOf nm = some .local) (h1 : Names X x1 c1) (h2 : Names X x2 c2) (h3 : Names X x3 c3) (h4 : Names X x4 c4)
      (hx : ∀ y C, G.cls y = some C → PySem.W.exmAny X.K (.ref C) [c1, c2, c3, c4] = some (t y)) (hsu : ∀ a, RSs G (hotX X a) WF (b0 :: su) ms) (r : HdF G X hds l hs) : HdF G X (.ExceptHandler (some (.Tuple [.Name x1 p1, .Name x2 p2, .Name x3 p3, .Name x4 p4] k np)) (some nm) (b0 :: su) hp :: hds) (([c1, c2, c3, c4], i, tMs G WF (lfS ms)) :: l) ((t, i, ms) :: hs) := HdL.consT hi hl h1 h2 h3 h4 hx hsu r
/-- four classes, one by one -/
theorem exm4 {K : PySem.W.Frag} {cls c1 c2 c3 c4 : Value} {b1 b2 b3 b4 : Bool} (h1 : PySem.W.exmOne K cls c1 = some b1) (h2 : PySem.W.exmOne K cls c2 = some b2) (h3 : PySem.W.exmOne K cls c3 = some b3) (h4 : PySem.W.exmOne K cls c4 = some b4) : PySem.W.exmAny K cls [c1, c2, c3, c4] = some (b1 || (b2 || (b3 || b4))) := by
  simp [PySem.W.exmAny, h1, h2, h3, h4]
theorem rs_tryP {body : List Stmt} {h0 : ExceptHandler} {hds : List ExceptHandler} {l : List (List Value × Nat × TS)} {hs : Hds} {mb : FS} {pos : Pos} (C : CxG G X W n) (hp : PassesOwn (model X.prog X.w) X.A X.env X.xe) (st : X.stack = X.env :: X.outer) (fr : X.env.frame = some X.env.locals) (nx : X.ex = []) (nd : X.N.Nodup)
    (hb : ∀ (W' : WX) (pn : List (Addr × Obj)) (xe : Value → Shared → Prop), CxG G (X.tr pn xe) W' n → PassesOwn (model X.prog X.w) X.A X.env xe → RSs G (X.tr pn xe) W' body mb) (hh : HdF G X (h0 :: hds) l hs) :
    RS G X W (.Try body (h0 :: hds) [] [] pos) (wTry mb hs) := RS.of (RB.rs_tryP C hp st fr nx nd hb hh) fun D r S h => by
  unfold wTry at h
  show outS (mb r S) _
  cases e : mb r S with
  | nx r S => rw [e] at h; exact h
  | rt d S => rw [e] at h; exact h
  | bk r S => rw [e] at h; exact h
  | ct r S => rw [e] at h; exact h
  | ex r x S => rw [e] at h; exact pick_in h
  | bad => rw [e] at h; exact h.elim
/-! ### defs -/
abbrev FD := List D → Store → O D
def spF (m : FD) : DSp := fun ds S Q E => out (m ds S) Q E
theorem spF_mon (m : FD) : DMon (spF m) := fun _ _ _ _ _ _ hq he h => out_mono h hq he
def finF (n : Nat) (o : R) : O D := match o with
  | .nx _ S => .ok (.p .non) (S.take n)
  | .rt d S => .ok d (cutD n d S)
  | .ex _ x S => .ex x (S.take n)
  | _ => .bad
@[simp] theorem fin_nx {n : Nat} {r : Rho} {S : Store} : finF n (.nx r S) = .ok (.p .non) (S.take n) := (rfl)
@[simp] theorem fin_rt {n : Nat} {d : D} {S : Store} : finF n (.rt d S) = .ok d (cutD n d S) := (rfl)
@[simp] theorem fin_ex {n : Nat} {r : Rho} {x : Exc} {S : Store} : finF n (.ex r x S) = .ex x (S.take n) := (rfl)
def fnF (N ps : List Str) (f : FS) (ds : List D) (S : Store) : O D := if decide (ds.length = ps.length) then finF S.length (f (startR N ds) S) else .bad
theorem fnF_len {N ps : List Str} {f : FS} (ds : List D) (S : Store) (Q : DK) (E : EK) (h : spF (fnF N ps f) ds S Q E) : ds.length = ps.length := by
  unfold spF fnF at h
  split at h
  · rename_i e; exact of_decide_eq_true e
  · exact h.elim
theorem fnF_pur {N ps : List Str} {f : FS} (ds : List D) (S : Store) (Q : DK) (E : EK) (h : spF (fnF N ps f) ds S Q E) : lfS f (endsF S.length Q E) (startR N ds) S := by
  unfold spF fnF at h
  split at h
  · show outS (f (startR N ds) S) _
    cases e : f (startR N ds) S with
    | nx r S => rw [e] at h; exact h
    | rt d S => rw [e] at h; exact h
    | bk r S => rw [e] at h; exact h.elim
    | ct r S => rw [e] at h; exact h.elim
    | ex r x S => rw [e] at h; exact h
    | bad => rw [e] at h; exact h.elim
  · exact h.elim
theorem fn_f {P : Program} {w : World} {mg : Str → Option Value} {base : Heap} {x qual : Str} {params : Arguments} {body : List Stmt} {scope : Scope} {dvs : List V} {kws : List (Str × V)} {fa : Addr} {fd : FuncData} {N ps : List Str} {k : Nat} {f : FS} (F : FunD G.K x qual params body scope dvs kws fa fd) (S : FnScope N ps scope)
    (hbody : ∀ (cdv : Value) (A : Around) (outer : List Env) (s : Shared) (H : Hp) (E : XK), CxG G (cxOf (L2.CX P w) P w G.K mg base N qual scope fa cdv A outer s H E) (fun cls d _ H' => E cls d H') k →
      RSs G (cxOf (L2.CX P w) P w G.K mg base N qual scope fa cdv A outer s H E) (fun cls d _ H' => E cls d H') body f) : FnG G P w mg base (k + 1) fa fd ps (spF (fnF N ps f)) :=
  fn_g F S (spF_mon _) fnF_len hbody fnF_pur
theorem fn_bad {P : Program} {w : World} {mg : Str → Option Value} {base : Heap} {fa : Addr} {fd : FuncData} {ps : List Str} {k : Nat} : FnG G P w mg base k fa fd ps (spF fun _ _ => .bad) :=
  ⟨spF_mon _, fun _ _ _ _ h => h.elim, fun _ _ _ _ _ _ _ _ _ _ _ _ _ _ ⟨_, _, _, _, _, h⟩ => h.elim⟩
/-! ### calls -/
def wCall (m : FD) (dds : List D) (fa : FA) (r : Rho) (S : Store) : O D := (fa r S).bind fun ds S1 => m (ds ++ dds) S1
def wCall0 (m : FD) (fa : FA) (r : Rho) (S : Store) : O D := (fa r S).bind m
theorem re_callN {x : Str} {fI : Addr} {fd : FuncData} {ps : List Str} {mf : FD} {fa : FA} (C : CxG G X W n) (F : FnG G X.prog X.w X.mg X.base k fI fd ps (spF mf)) (hk : k ≤ n) (hg : Gl X x) (hm : X.mg x = some (.ref fI)) (kp : PySem.W.keepIn X.K (.ref fI) = true) (hb : Binds X.K fd ps []) (ha : RA G X W (e :: es) fa)
    (hdb : (x == ("__debug__" : Str)) = false := by decide) (he : starEach (e :: es) X.env = (false, eval e X.env) :: starEach es X.env := by rfl) (hpl : (backTo pos (starEach es X.env)).any (·.1) = false := by rfl) :
    RE G X W (.Call (.Name x p) (e :: es) [] pos) (wCall0 mf fa) := RE.of (RB.re_callN C F hk hg hm kp hb ha hdb he hpl) fun r S Q E h => by
  unfold wCall0 at h
  rw [out_bind] at h
  refine out_mono h (fun ds _ h => ?_) fun _ _ h => h
  show spF mf (ds ++ []) _ _ _
  rw [List.append_nil]
  exact h
theorem re_callN0 {x : Str} {fI : Addr} {fd : FuncData} {ps : List Str} {mf : FD} (C : CxG G X W n) (F : FnG G X.prog X.w X.mg X.base k fI fd ps (spF mf)) (hk : k ≤ n) (hg : Gl X x) (hm : X.mg x = some (.ref fI)) (kp : PySem.W.keepIn X.K (.ref fI) = true) (hb : Binds X.K fd ps [])
    (hdb : (x == ("__debug__" : Str)) = false := by decide) : RE G X W (.Call (.Name x p) [] [] pos) (wCall0 mf wNil) := RE.of (RB.re_callN0 C F hk hg hm kp hb hdb) fun r S Q E h => h
def wCallK (m : FD) (g : List D → List D) (fk : FA) (r : Rho) (S : Store) : O D := (fk r S).bind fun zs S1 => m (g zs) S1
theorem re_callK0 {x : Str} {fI : Addr} {fd : FuncData} {ps ks : List Str} {mf : FD} {fk : FA} {kws : List Keyword} {g : List Value → List Value} {gV : List V → List V} {gD : List D → List D} (C : CxG G X W n) (F : FnG G X.prog X.w X.mg X.base k fI fd ps (spF mf)) (hk : k ≤ n) (hg : Gl X x) (hm : X.mg x = some (.ref fI)) (kp : PySem.W.keepIn X.K (.ref fI) = true)
    (hb : ∀ (s : Shared) (ws : List Value), X.K.In s.heap → ws.length = ks.length → BindsTo s fd ⟨[], ks.zip ws⟩ (ps.zip (g ws))) (hgl : ∀ zs : List D, (gD zs).length = ps.length → zs.length = ks.length) (hrel : ∀ {zs : List V} {ws : List Value}, Vals zs ws → Vals (gV zs) (g ws)) (hdd : ∀ w zs ds, RepDs G w zs ds → RepDs G w (gV zs) (gD ds)) (hkw : RK G X W kws fk)
    (hall : (backToKw pos (keywordEach kws X.env)).all (·.1.isSome) = true := by rfl) (hks : (backToKw pos (keywordEach kws X.env)).filterMap (·.1) = ks := by rfl) (hdb : (x == ("__debug__" : Str)) = false := by decide)
    (hpl : ((backTo pos (starEach [] X.env)).any (·.1) || (backToKw pos (keywordEach kws X.env)).any (·.1.isNone)) = false := by rfl) :
    RE G X W (.Call (.Name x p) [] kws pos) (wCallK mf gD fk) := RE.of (RB.re_callK0 C F hk hg hm kp hb hgl hrel hdd hkw hall hks hdb hpl) fun r S Q E h => by
  unfold wCallK at h
  rw [out_bind] at h
  exact h
/-! ### fields, classes -/
def dAttr (cs : List String) (f : Str) (d : D) (S : Store) : O D := match objOf S d with
  | some (c, ns, vs) => match flook ns vs f with
    | some p => chk (cs.contains c) (.p p) S
    | none => .bad
  | none => .bad
abbrev wAttr (cs : List String) (f : Str) (fe : FE) : FE := wUn (dAttr cs f) fe
theorem un_in {q : D → Store → O D} {d : D → Store → DK → Prop} (s : ∀ d1 S Q E, out (q d1 S) Q E → d d1 S Q) {fe : FE} {r : Rho} {S : Store} {Q : DK} {E : EK} (h : out (wUn q fe r S) Q E) : RB.wUn d (lf fe) r S Q E := by
  unfold wUn at h
  rw [out_bind] at h
  exact out_mono h (fun d1 S1 h => s _ _ _ _ h) fun _ _ h => h
theorem re_attr {cs : List String} {fe : FE} (ha : ∀ c ∈ cs, ∀ C, G.cls c = some C → AtC G X.K c C f) (he : RE G X W e fe) (hb : attributeBase e f X.env (eval e X.env) = eval e X.env := by rfl) : RE G X W (.Attribute e f pos) (wAttr cs f fe) := RE.of (RB.re_attr ha he hb) fun r S Q E h => un_in (d := RB.dAttr cs f) (fun d S Q E h => by
  unfold dAttr at h
  unfold RB.dAttr
  split at h
  · rename_i e1
    try rw [e1]
    split at h
    · rename_i e2
      exact ⟨List.contains_iff_mem.mp (out_chk h).1, _, e2, (out_chk h).2⟩
    · exact h.elim
  · exact h.elim) h
def dIsK (ts : List String) (t : String → Bool) (d : D) (S : Store) : O D := match tyN S d with
  | some c => chk (ts.contains c) (.p (.bl (t c))) S
  | none => .bad
theorem re_isK {ts : List String} {t : String → Bool} {fe : FE} {p p1 : Pos} {x : Str} {u : Value} {uv : V} (hK : X.K = G.K) (T : IsT G X.K ts u t) (hu : ClsV uv u) (he : RE G X W e fe) (hx : PE X (.Name x p1) (tC uv)) (hg : Gl X "isinstance") (hm : X.mg "isinstance" = none)
    (hs : starEach [e, .Name x p1] X.env = (false, eval e X.env) :: starEach [.Name x p1] X.env := by rfl) : RE G X W (.Call (.Name "isinstance" p) [e, .Name x p1] [] pos) (wUn (dIsK ts t) fe) := RE.of (RB.re_isK hK T hu he hx hg hm hs) fun r S Q E h => un_in (d := RB.dIsK ts t) (fun d S Q E h => by
  unfold dIsK at h
  unfold RB.dIsK
  split at h
  · rename_i e1
    try rw [e1]
    exact ⟨List.contains_iff_mem.mp (out_chk h).1, (out_chk h).2⟩
  · exact h.elim) h
abbrev PM := D → List D → Store → O D
structure MtL (G : Glob) (X : Cx) (id : String) (q : PM) : Prop where
  ex : ∃ d, RB.MtL G X id d ∧ ∀ d1 ds S Q E, out (q d1 ds S) Q E → d d1 ds S Q
def wBM (T : String) (q : PM) (fo : FE) (fa : FA) (r : Rho) (S : Store) : O D := (fo r S).bind fun d S1 => if tyS S1 d = some T then (fa r S1).bind fun ds S2 => q d ds S2 else .bad
theorem re_bm {T id : String} {name : Str} {q : PM} {fo : FE} {fa : FA} (hK : X.K = G.K) (pa : PlainAttrs T) (slot : Slot T name id) (hty : typeOf (.builtin id) = pure (.type "method_descriptor")) (hT : T ∈ ["str", "list", "dict"]) (hm : MtL G X id q) (ho : RE G X W o fo) (ha : RA G X W (e :: es) fa)
    (hbase : attributeBase o name X.env (eval o X.env) = eval o X.env := by rfl)
    (hfew : ((backTo pos (starEach (e :: es) X.env)).all (fun x => !x.1) && (backToKw pos (keywordEach [] X.env)).all (fun x => x.1.isSome) && decide ((e :: es).length + ([] : List Keyword).length + (if ([] : List Keyword).isEmpty then 0 else 1) < 30)) = true := by rfl)
    (hline : (apos.endLine == pos.line) = true := by rfl) (hs : starEach (e :: es) X.env = (false, eval e X.env) :: starEach es X.env := by rfl) (hplain : (backTo pos (starEach es X.env)).any (·.1) = false := by rfl) :
    RE G X W (.Call (.Attribute o name apos) (e :: es) [] pos) (wBM T q fo fa) := by
  obtain ⟨d, hd, s⟩ := hm.ex
  refine RE.of (RB.re_bm hK pa slot hty hT hd ho ha hbase hfew hline hs hplain) fun r S Q E h => ?_
  unfold wBM at h
  rw [out_bind] at h
  refine out_mono h (fun d1 S1 h => ?_) fun _ _ h => h
  split at h
  · rename_i e1
    rw [out_bind] at h
    exact ⟨e1, out_mono h (fun ds S2 h => s _ _ _ _ _ h) fun _ _ h => h⟩
  · exact h.elim
def dAppend (d : D) (ds : List D) (S : Store) : O D := match d, ds with
  | .cell n, [.p p] => match S[n]? with
    | some (.lst ps) => chk (decide (ps.length < sizeLine)) (.p .non) (S.set n (.lst (ps ++ [p])))
    | _ => .bad
  | _, _ => .bad
theorem ml_append : MtL G X "list.append" dAppend := ⟨_, RB.ml_append, fun d ds S Q E h => by
  unfold dAppend at h
  unfold RB.dAppend
  split at h
  · split at h
    · rename_i e1
      try dsimp only
      try rw [e1]
      exact ⟨by simpa [decide_eq_true_eq] using (out_chk h).1, (out_chk h).2⟩
    · exact h.elim
  · exact h.elim⟩
def dSplit (d : D) (ds : List D) (S : Store) : O D := match d, ds with
  | .p (.str a), [.p (.str b)] => chk (!(b.length == 0) && decide ((a.length + 2) ≤ sizeLine)) (.p (.lst ((Txt.split a b).map P.str))) S
  | _, _ => .bad
theorem ml_split : MtL G X "str.split" dSplit := ⟨_, RB.ml_split, fun d ds S Q E h => by
  unfold dSplit at h
  unfold RB.dSplit
  split at h
  · have q := out_chk h
    simp only [Bool.and_eq_true, Bool.not_eq_true', decide_eq_true_eq] at q
    exact ⟨q.1.1, q.1.2, q.2⟩
  · exact h.elim⟩
/-! ### things of own classes -/
def mkF (o : O D) (n : Nat) : O D := match o with
  | .ok (.p .non) S1 => match S1[n]? with
    | some (.obj c' ns vs) => .ok (.p (.obj c' ns vs)) (S1.take n)
    | _ => .bad
  | .ex y S1 => .ex y (S1.take n)
  | _ => .bad
def wMake (c : String) (mf : FD) (n m : Nat) (gD : List D → List D → List D) (fa fk : FA) (r : Rho) (S : Store) : O D := (fa r S).bind fun ds S1 => (fk r S1).bind fun es S2 => if decide (ds.length = n) && decide (es.length = m) then mkF (mf (gD (.cell S2.length :: ds) es) (S2 ++ [.obj c [] []])) S2.length else .bad
theorem make_in {c : String} {mf : FD} {n m : Nat} {gD : List D → List D → List D} {fa fk : FA} {r : Rho} {S : Store} {Q : DK} {E : EK} (h : out (wMake c mf n m gD fa fk r S) Q E) : RB.wMake c (spF mf) n m gD (lf fa) (lf fk) r S Q E := by
  unfold wMake at h
  rw [out_bind] at h
  refine out_mono h (fun ds S1 h => ?_) fun _ _ h => h
  rw [out_bind] at h
  refine out_mono h (fun es S2 h => ?_) fun _ _ h => h
  split at h
  · rename_i e1
    simp only [Bool.and_eq_true] at e1
    refine ⟨of_decide_eq_true e1.1, of_decide_eq_true e1.2, ?_⟩
    unfold dMake spF
    cases e : mf (gD (.cell S2.length :: ds) es) (S2 ++ [.obj c [] []]) with
    | ok d S3 =>
      rw [e] at h
      unfold mkF at h
      split at h
      · rename_i e2
        cases e2
        split at h
        · rename_i e3
          refine ⟨rfl, ?_⟩
          try rw [e3]
          exact h
        · exact h.elim
      · rename_i e2; cases e2
      · exact h.elim
    | ex y S3 => rw [e] at h; exact h
    | bad => rw [e] at h; exact h.elim
  · exact h.elim
theorem re_makeK {q : Nat} {x : Str} {fI Cc : Addr} {fd : FuncData} {ps ks : List Str} {mf : FD} {gD : List D → List D → List D} {kws : List Keyword} {fa fk : FA} {c : String} (C : CxG G X W n) (M : Mk X.K Cc fI) (F : FnG G X.prog X.w X.mg X.base k fI fd ps (spF mf)) (hk : k + 1 ≤ n) (hc : G.cls c = some Cc) (hi : G.isE c = false) (hg : Gl X x) (hm : X.mg x = some (.ref Cc)) (hb : Bd G X.K fd ps (q + 1) ks gD) (ha : RA G X W (e :: es) fa) (hkw : RK G X W kws fk)
    (hall : (backToKw pos (keywordEach kws X.env)).all (·.1.isSome) = true := by rfl) (hks : (backToKw pos (keywordEach kws X.env)).filterMap (·.1) = ks := by rfl) (hdb : (x == ("__debug__" : Str)) = false := by decide) (he : starEach (e :: es) X.env = (false, eval e X.env) :: starEach es X.env := by rfl)
    (hpl : ((backTo pos (starEach (e :: es) X.env)).any (·.1) || (backToKw pos (keywordEach kws X.env)).any (·.1.isNone)) = false := by rfl) : RE G X W (.Call (.Name x p) (e :: es) kws pos) (wMake c mf q ks.length gD fa fk) := RE.of (RB.re_makeK C M F hk hc hi hg hm hb ha hkw hall hks hdb he hpl) fun r S Q E h => make_in h
theorem re_make {q : Nat} {x : Str} {fI Cc : Addr} {fd : FuncData} {ps : List Str} {mf : FD} {gD : List D → List D → List D} {fa : FA} {c : String} (C : CxG G X W n) (M : Mk X.K Cc fI) (F : FnG G X.prog X.w X.mg X.base k fI fd ps (spF mf)) (hk : k + 1 ≤ n) (hc : G.cls c = some Cc) (hi : G.isE c = false) (hg : Gl X x) (hm : X.mg x = some (.ref Cc)) (hb : Bd G X.K fd ps (q + 1) [] gD) (ha : RA G X W (e :: es) fa)
    (hdb : (x == ("__debug__" : Str)) = false := by decide) (he : starEach (e :: es) X.env = (false, eval e X.env) :: starEach es X.env := by rfl) (hpl : (backTo pos (starEach es X.env)).any (·.1) = false := by rfl) : RE G X W (.Call (.Name x p) (e :: es) [] pos) (wMake c mf q 0 gD fa wNil) := RE.of (RB.re_make C M F hk hc hi hg hm hb ha hdb he hpl) fun r S Q E h => make_in h
abbrev FTab := List (String × FD × (List D → List D))
def wMeth (m : Str) (tab : FTab) (fo : FE) (fa : FA) (r : Rho) (S : Store) : O D := (fo r S).bind fun d S0 => match objOf S0 d with
  | some (c, ns, _) => match tab.lookup c with
    | some q => if ns.contains m then .bad else (fa r S0).bind fun ds S1 => q.1 (q.2 (d :: ds)) S1
    | none => .bad
  | none => .bad
abbrev lfM (tab : FTab) : List (String × DSp × (List D → List D)) := tab.map fun q => (q.1, spF q.2.1, q.2.2)
theorem lookup_lfM {c : String} : ∀ {tab : FTab} {q : FD × (List D → List D)}, tab.lookup c = some q → (lfM tab).lookup c = some (spF q.1, q.2)
  | [], q, h => by cases h
  | (c', t) :: tab, q, h => by
    show List.lookup c ((c', spF t.1, t.2) :: lfM tab) = _
    rw [List.lookup_cons] at h ⊢
    cases e1 : c == c' with
    | true =>
      rw [e1] at h
      cases h
      rfl
    | false =>
      rw [e1] at h
      exact lookup_lfM h
theorem meth_in {m : Str} {tab : FTab} {fo : FE} {fa : FA} {r : Rho} {S : Store} {Q : DK} {E : EK} (h : out (wMeth m tab fo fa r S) Q E) : RB.wMeth m (lfM tab) (lf fo) (lf fa) r S Q E := by
  unfold wMeth at h
  rw [out_bind] at h
  refine out_mono h (fun d S1 h => ?_) fun _ _ h => h
  try dsimp only at h ⊢
  split at h
  · rename_i e1
    try rw [e1]
    split at h
    · rename_i q e2
      split at h
      · exact h.elim
      · rename_i e3
        rw [out_bind] at h
        refine ⟨fun z => e3 (List.contains_iff_mem.mpr z), _, lookup_lfM e2, h⟩
    · exact h.elim
  · exact h.elim
def MtC (G : Glob) (X : Cx) (n : Nat) (m : Str) (c : String) (mf : FD) (gD : List D → List D) : Prop := RB.MtC G X n m c (spF mf) gD
theorem mt_all {tab : FTab} (ht : ∀ q ∈ tab, MtC G X n m q.1 q.2.1 q.2.2) : ∀ q ∈ lfM tab, RB.MtC G X n m q.1 q.2.1 q.2.2 := fun q hq => by
  obtain ⟨t, h1, rfl⟩ := List.mem_map.mp hq
  exact ht t h1
theorem re_meth {tab : FTab} {fo : FE} {fa : FA} {pl : Sem Bool} (C : CxG G X W n) (ht : ∀ q ∈ tab, MtC G X n m q.1 q.2.1 q.2.2) (ho : RE G X W o fo) (ha : RA G X W (e :: es) fa)
    (hst : starEach (e :: es) X.env = (false, eval e X.env) :: starEach es X.env := by rfl) (hpl : (backTo pos (starEach es X.env)).any (·.1) = false := by rfl)
    (hev : eval (.Call (.Attribute o m apos) (e :: es) [] pos) X.env = (do
      let ov ← eval o X.env
      standAt apos.atName
      let (f, first) ← holding [ov] (getMethod ov m pl)
      callWith pos f first (backTo pos (starEach (e :: es) X.env)) (backToKw pos (keywordEach [] X.env))) := by rfl) : RE G X W (.Call (.Attribute o m apos) (e :: es) [] pos) (wMeth m tab fo fa) := RE.of (RB.re_meth C (mt_all ht) ho ha hst hpl hev) fun r S Q E h => meth_in h
theorem re_meth0 {tab : FTab} {fo : FE} {pl : Sem Bool} (C : CxG G X W n) (ht : ∀ q ∈ tab, MtC G X n m q.1 q.2.1 q.2.2) (ho : RE G X W o fo)
    (hev : eval (.Call (.Attribute o m apos) [] [] pos) X.env = (do
      let ov ← eval o X.env
      standAt apos.atName
      let (f, first) ← holding [ov] (getMethod ov m pl)
      callWith pos f first (backTo pos (starEach [] X.env)) (backToKw pos (keywordEach [] X.env))) := by rfl) : RE G X W (.Call (.Attribute o m apos) [] [] pos) (wMeth m tab fo wNil) := RE.of (RB.re_meth0 C (mt_all ht) ho hev) fun r S Q E h => meth_in h
/-! ### a thing that changes no more -/
def frz (d : D) (S : Store) : O D := match d with
  | .p v => .ok (.p v) S
  | .cell n => match S[n]? with
    | some (.lst xs) => .ok (.p (.lst xs)) (S.set n .dead)
    | some (.dK ks vs) => .ok (.p (.dK ks vs)) (S.set n .dead)
    | some (.obj c ns vs) => .ok (.p (.obj c ns vs)) (S.set n .dead)
    | _ => .bad
  | .fn => .bad
theorem frz_ok {w : Wd} {S : Store} {H : Hp} {Q : VK} {E : EK} {d : D} {v : V} (k : Wok G w S H) (r : RepD G w v d) (h : out (frz d S) (Qv G w H Q) E) : Q v H := by
  unfold frz at h
  split at h
  · exact h v w H (Ext.refl _ _) k r
  · rename_i n
    obtain ⟨a, rfl, ha⟩ := rep_cell.mp r
    split at h
    · rename_i xs hs
      obtain ⟨hi, vs, hv, rs⟩ := k.cells n _ a hs ha
      obtain ⟨k2, x2⟩ := k.freeze hs ha hv hi
      exact h _ _ H x2 k2 (rep_lst.mpr ⟨a, vs, rfl, upd_same, rs.mono (Same.upd _ hi)⟩)
    · rename_i ks xs hs
      obtain ⟨hi, kvs, hv, e1, rs⟩ := k.cells n _ a hs ha
      obtain ⟨k2, x2⟩ := k.freeze hs ha hv hi
      refine h _ _ H x2 k2 ?_
      simp only [RepD, Rep]
      exact ⟨a, kvs, rfl, upd_same, e1, rs.mono (Same.upd _ hi)⟩
    · rename_i c ns xs hs
      obtain ⟨hi, ie, C, dx, fs, g, hv, e1, rs⟩ := k.cells n _ a hs ha
      obtain ⟨k2, x2⟩ := k.freeze hs ha hv hi
      refine h _ _ H x2 k2 ?_
      simp only [RepD, Rep]
      exact ⟨a, C, fs, rfl, g, .inl ⟨ie, dx, upd_same⟩, e1, rs.mono (Same.upd _ hi)⟩
    · exact h.elim
  · exact h.elim
def wFrz (f : FE) (r : Rho) (S : Store) : O D := (f r S).bind frz
theorem re_frz {fe : FE} (h : RE G X W e fe) : RE G X W e (wFrz fe) := by
  refine ⟨PE.imp h.pe fun σ H Q ⟨w, S, r, ok, en, q⟩ => ?_, lf_mon _⟩
  refine ⟨w, S, r, ok, en, ?_⟩
  unfold lf wFrz at q
  rw [out_bind] at q
  refine out_mono q (fun d S1 q v w1 H1 x1 k1 r1 => ?_) fun _ _ q => q
  exact frz_ok (E := Qx G w H fun c d H' => W c d σ H') k1 r1 (out_mono q (fun d S z => z.ext x1) fun _ _ z => z)
end
end RB.F
/-! Running the functions: only what is done next is looked at. -/
namespace RB.F
open PySem PySem.Spec PyProof.Rows L2 RB
theorem bind_cg {α β : Type} {o o' : O α} {k : α → Store → O β} (h : o = o') : o.bind k = o'.bind k := by rw [h]
theorem st_cg {α : Type} {o o' : O α} {r : Rho} {k : α → Store → R} (h : o = o') : o.st r k = o'.st r k := by rw [h]
theorem seq_cg {o o' : R} {f : FS} (h : o = o') : o.seq f = o'.seq f := by rw [h]
theorem fin_cg {n : Nat} {o o' : R} (h : o = o') : finF n o = finF n o' := by rw [h]
theorem try_cg {o o' : R} {hs : Hds} (h : o = o') : o.tryE hs = o'.tryE hs := by rw [h]
theorem gone_cg {o o' : R} {i : Nat} (h : o = o') : o.gone i = o'.gone i := by rw [h]
theorem mk_cg {o o' : O D} {n : Nat} (h : o = o') : mkF o n = mkF o' n := by rw [h]
theorem noEx_cg {α : Type} {o o' : O α} (h : o = o') : noEx o = noEx o' := by rw [h]
theorem ite_cgF {α : Type} {p q : Prop} [Decidable p] [Decidable q] {a b : α} (h : p ↔ q) : (if p then a else b) = (if q then a else b) := by
  by_cases hp : p
  · rw [if_pos hp, if_pos (h.mp hp)]
  · rw [if_neg hp, if_neg (fun z => hp (h.mpr z))]
theorem sz : sizeLine = 16777216 := (rfl)
theorem var_ok {i : Nat} {r : Rho} {d : D} {S : Store} (h : r[i]? = some (some d)) : wVar i r S = .ok d S := by
  unfold wVar
  rw [h]
theorem cut_p {n : Nat} {v : P} {S : Store} : cutD n (.p v) S = S.take n := (rfl)
theorem take_len {S : Store} : S.take S.length = S := List.take_length
/-- a comprehension whose parts leave the store alone -/
theorem lcF_pure {T : Tgt} {ft : FT} {fe : FE} {r0 : Rho} {S : Store} (t : D → Bool) (g : D → P) : ∀ {ds : List D} {n : Nat}, (∀ d ∈ ds, ∃ r, bindT T d r0 = some r ∧ ft r S = .ok (t d) S ∧ (t d = true → fe r S = .ok (.p (g d)) S)) → n + ds.length ≤ sizeLine →
    lcF T ft fe r0 ds n S = .ok ((ds.filter t).map g) S
  | [], n, _, _ => rfl
  | d :: ds, n, h, hl => by
    obtain ⟨r, h1, h2, h3⟩ := h d (List.mem_cons_self ..)
    have hl : n + (ds.length + 1) ≤ sizeLine := hl
    unfold lcF
    rw [h1]
    dsimp only
    rw [h2]
    cases e : t d with
    | true =>
      dsimp only
      rw [h3 e]
      dsimp only
      have hb : decide (n < sizeLine) = true := decide_eq_true (by omega)
      rw [hb]
      dsimp only
      rw [lcF_pure t g (ds := ds) (n := n + 1) (fun d' m => h d' (List.mem_cons_of_mem _ m)) (by omega), List.filter_cons_of_pos e]
      rfl
    | false =>
      dsimp only
      rw [lcF_pure t g (ds := ds) (n := n) (fun d' m => h d' (List.mem_cons_of_mem _ m)) (by omega), List.filter_cons_of_neg (by simp [e])]
theorem lcF_map {T : Tgt} {fe : FE} {r0 : Rho} {S : Store} (g : D → P) {ds : List D} {n : Nat} (h : ∀ d ∈ ds, ∃ r, bindT T d r0 = some r ∧ fe r S = .ok (.p (g d)) S) (hl : n + ds.length ≤ sizeLine) : lcF T wYes fe r0 ds n S = .ok (ds.map g) S := by
  rw [lcF_pure (ft := wYes) (fun _ => true) g (fun d m => let ⟨r, h1, h2⟩ := h d m; ⟨r, h1, rfl, fun _ => h2⟩) hl, List.filter_eq_self.mpr (fun _ _ => rfl)]
/-- .. over a list that is told by another -/
theorem lcF_pureM {α : Type} {F : α → D} {T : Tgt} {ft : FT} {fe : FE} {r0 : Rho} {S : Store} (t : α → Bool) (g : α → P) : ∀ {xs : List α} {n : Nat}, (∀ x ∈ xs, ∃ r, bindT T (F x) r0 = some r ∧ ft r S = .ok (t x) S ∧ (t x = true → fe r S = .ok (.p (g x)) S)) → n + xs.length ≤ sizeLine →
    lcF T ft fe r0 (xs.map F) n S = .ok ((xs.filter t).map g) S
  | [], n, _, _ => rfl
  | d :: ds, n, h, hl => by
    obtain ⟨r, h1, h2, h3⟩ := h d (List.mem_cons_self ..)
    have hl : n + (ds.length + 1) ≤ sizeLine := hl
    rw [List.map_cons]
    unfold lcF
    rw [h1]
    dsimp only
    rw [h2]
    cases e : t d with
    | true =>
      dsimp only
      rw [h3 e]
      dsimp only
      have hb : decide (n < sizeLine) = true := decide_eq_true (by omega)
      rw [hb]
      dsimp only
      rw [lcF_pureM t g (xs := ds) (n := n + 1) (fun d' m => h d' (List.mem_cons_of_mem _ m)) (by omega), List.filter_cons_of_pos e]
      rfl
    | false =>
      dsimp only
      rw [lcF_pureM t g (xs := ds) (n := n) (fun d' m => h d' (List.mem_cons_of_mem _ m)) (by omega), List.filter_cons_of_neg (by simp [e])]
theorem lcF_mapM {α : Type} {F : α → D} {T : Tgt} {fe : FE} {r0 : Rho} {S : Store} (g : α → P) {xs : List α} {n : Nat} (h : ∀ x ∈ xs, ∃ r, bindT T (F x) r0 = some r ∧ fe r S = .ok (.p (g x)) S) (hl : n + xs.length ≤ sizeLine) : lcF T wYes fe r0 (xs.map F) n S = .ok (xs.map g) S := by
  rw [lcF_pureM (ft := wYes) (fun _ => true) g (fun d m => let ⟨r, h1, h2⟩ := h d m; ⟨r, h1, rfl, fun _ => h2⟩) hl, List.filter_eq_self.mpr (fun _ _ => rfl)]
/-- a comprehension by an invariant: the items have a property -/
theorem lcF_inv {T : Tgt} {fe : FE} {r0 : Rho} (I : Nat → Store → Prop) (A : P → Prop) : ∀ {ds : List D} {n k : Nat} {S : Store}, I (k + ds.length) S → (∀ d ∈ ds, ∀ j S, I (j + 1) S → ∃ r x S', bindT T d r0 = some r ∧ fe r S = .ok (.p x) S' ∧ I j S' ∧ A x) → n + ds.length ≤ sizeLine →
    ∃ xs S', lcF T wYes fe r0 ds n S = .ok xs S' ∧ I k S' ∧ xs.length = ds.length ∧ ∀ x ∈ xs, A x
  | [], n, k, S, h0, _, _ => ⟨[], S, rfl, h0, rfl, fun _ m => nomatch m⟩
  | d :: ds, n, k, S, h0, h, hl => by
    have hl : n + (ds.length + 1) ≤ sizeLine := hl
    obtain ⟨r, x, S1, h1, h2, h3, h4⟩ := h d (List.mem_cons_self ..) (k + ds.length) S h0
    obtain ⟨xs, S2, g1, g2, g3, g4⟩ := lcF_inv I A (ds := ds) (n := n + 1) (k := k) (S := S1) h3 (fun d' m => h d' (List.mem_cons_of_mem _ m)) (by omega)
    refine ⟨x :: xs, S2, ?_, g2, by simp [g3], fun y m => ?_⟩
    · unfold lcF
      rw [h1]
      dsimp only [wYes]
      rw [h2]
      dsimp only
      have hb : decide (n < sizeLine) = true := decide_eq_true (by omega)
      rw [hb]
      dsimp only
      rw [g1]
      rfl
    · rcases List.mem_cons.mp m with rfl | m
      · exact h4
      · exact g4 y m
/-- a loop by an invariant -/
theorem forF_inv {T : Tgt} {f : FS} (I : Nat → Rho → Store → Prop) : ∀ {ds : List D} {k : Nat} {r : Rho} {S : Store}, I (k + ds.length) r S → (∀ d ∈ ds, ∀ j r S, I (j + 1) r S → ∃ r1 r2 S2, bindT T d r = some r1 ∧ f r1 S = .nx r2 S2 ∧ I j r2 S2) → ∃ r' S', forF T f ds r S = .nx r' S' ∧ I k r' S'
  | [], k, r, S, h0, _ => ⟨r, S, rfl, h0⟩
  | d :: ds, k, r, S, h0, h => by
    obtain ⟨r1, r2, S2, h1, h2, h3⟩ := h d (List.mem_cons_self ..) (k + ds.length) r S h0
    obtain ⟨r', S', g1, g2⟩ := forF_inv I (ds := ds) (k := k) h3 (fun d' m => h d' (List.mem_cons_of_mem _ m))
    refine ⟨r', S', ?_, g2⟩
    unfold forF
    rw [h1]
    dsimp only
    rw [h2]
    exact g1
/-! ### equality of data -/
mutual
def peq : P → P → Bool
  | .non, .non => true
  | .bl a, .bl b => decide (a = b)
  | .bl a, .int j => decide ((if a = true then 1 else 0) = j)
  | .int i, .bl b => decide (i = if b = true then 1 else 0)
  | .int i, .int j => decide (i = j)
  | .str x, .str y => decide (x = y)
  | .lst xs, .lst ys => peqs xs ys
  | .tup xs, .tup ys => peqs xs ys
  | _, _ => false
def peqs : List P → List P → Bool
  | [], [] => true
  | x :: xs, y :: ys => peq x y && peqs xs ys
  | _, _ => false
end
mutual
/-- data that can be compared: so deep at most, texts in order -/
def fine : Nat → P → Bool
  | _, .non => true
  | _, .bl _ => true
  | _, .int _ => true
  | _, .str x => PyData.strOk x
  | 0, .lst _ => false
  | n + 1, .lst xs => fines n xs
  | 0, .tup _ => false
  | n + 1, .tup xs => fines n xs
  | _, _ => false
def fines : Nat → List P → Bool
  | _, [] => true
  | n, x :: xs => fine n x && fines n xs
end
mutual
theorem fine_pd : ∀ {n : Nat} {a : P}, fine n a = true → ∃ e, pd a = some e ∧ PyData.canLay0 e = true ∧ e.depth ≤ n
  | _, .non, _ => ⟨_, rfl, rfl, by simp [PyData.depth]⟩
  | _, .bl _, _ => ⟨_, rfl, rfl, by simp [PyData.depth]⟩
  | _, .int _, _ => ⟨_, rfl, rfl, by simp [PyData.depth]⟩
  | _, .str x, h => ⟨_, rfl, by simpa [fine, PyData.canLay0] using h, by simp [PyData.depth]⟩
  | n + 1, .lst xs, h => by
    simp only [fine] at h
    obtain ⟨es, h1, h2, h3⟩ := fines_pd h
    exact ⟨.list es, by simp [pd, h1], by simpa [PyData.canLay0] using h2, by simp [PyData.depth]; omega⟩
  | n + 1, .tup xs, h => by
    simp only [fine] at h
    obtain ⟨es, h1, h2, h3⟩ := fines_pd h
    exact ⟨.tuple es, by simp [pd, h1], by simpa [PyData.canLay0] using h2, by simp [PyData.depth]; omega⟩
  | 0, .lst _, h => by simp [fine] at h
  | 0, .tup _, h => by simp [fine] at h
  | _, .ty _, h => by simp [fine] at h
  | _, .scr _, h => by simp [fine] at h
  | _, .dK _ _, h => by simp [fine] at h
  | _, .dT _ _, h => by simp [fine] at h
  | _, .obj _ _ _, h => by simp [fine] at h
theorem fines_pd : ∀ {n : Nat} {a : List P}, fines n a = true → ∃ e, pds a = some e ∧ PyData.canLayAll0 e = true ∧ PyData.depthAll e ≤ n
  | _, [], _ => ⟨[], rfl, rfl, by simp [PyData.depthAll]⟩
  | n, x :: xs, h => by
    simp only [fines, Bool.and_eq_true] at h
    obtain ⟨e, h1, h2, h3⟩ := fine_pd h.1
    obtain ⟨es, g1, g2, g3⟩ := fines_pd h.2
    exact ⟨e :: es, by simp [pds, h1, g1], by simp [PyData.canLayAll0, h2, g2], by simp [PyData.depthAll]; omega⟩
end
mutual
theorem eqv_peq : ∀ {a b : P} {n m : Nat} {x y : PyData}, fine n a = true → fine m b = true → pd a = some x → pd b = some y → PyData.eqv x y = peq a b
  | .lst xs, b, n, m, x, y, h1, h2, h3, h4 => by
    simp only [pd, Option.map_eq_some_iff] at h3
    obtain ⟨es, e1, rfl⟩ := h3
    cases b <;> simp only [pd, Option.map_eq_some_iff, Option.some.injEq, reduceCtorEq] at h4
    case lst ys =>
      obtain ⟨fs, e2, rfl⟩ := h4
      cases n with
      | zero => simp [fine] at h1
      | succ n =>
        cases m with
        | zero => simp [fine] at h2
        | succ m =>
          simp only [fine] at h1 h2
          simp only [PyData.eqv, peq]
          exact eqvs_peq h1 h2 e1 e2
    case tup ys =>
      obtain ⟨fs, e2, rfl⟩ := h4
      simp [PyData.eqv, peq]
    case scr ys => simp [fine] at h2
    all_goals (subst h4; simp [PyData.eqv, peq])
  | .tup xs, b, n, m, x, y, h1, h2, h3, h4 => by
    simp only [pd, Option.map_eq_some_iff] at h3
    obtain ⟨es, e1, rfl⟩ := h3
    cases b <;> simp only [pd, Option.map_eq_some_iff, Option.some.injEq, reduceCtorEq] at h4
    case tup ys =>
      obtain ⟨fs, e2, rfl⟩ := h4
      cases n with
      | zero => simp [fine] at h1
      | succ n =>
        cases m with
        | zero => simp [fine] at h2
        | succ m =>
          simp only [fine] at h1 h2
          simp only [PyData.eqv, peq]
          exact eqvs_peq h1 h2 e1 e2
    case lst ys =>
      obtain ⟨fs, e2, rfl⟩ := h4
      simp [PyData.eqv, peq]
    case scr ys => simp [fine] at h2
    all_goals (subst h4; simp [PyData.eqv, peq])
  | .scr _, _, _, _, _, _, h1, _, _, _ => by simp [fine] at h1
  | .ty _, _, _, _, _, _, h1, _, _, _ => by simp [fine] at h1
  | .dK _ _, _, _, _, _, _, h1, _, _, _ => by simp [fine] at h1
  | .dT _ _, _, _, _, _, _, h1, _, _, _ => by simp [fine] at h1
  | .obj _ _ _, _, _, _, _, _, h1, _, _, _ => by simp [fine] at h1
  | .non, b, n, m, x, y, h1, h2, h3, h4 => by
    cases h3
    cases b <;> simp only [pd, Option.map_eq_some_iff, Option.some.injEq, reduceCtorEq] at h4
    case lst ys | tup ys => obtain ⟨fs, e2, rfl⟩ := h4; simp [PyData.eqv, peq]
    case scr ys => simp [fine] at h2
    all_goals (subst h4; simp [PyData.eqv, peq])
  | .bl u, b, n, m, x, y, h1, h2, h3, h4 => by
    cases h3
    cases b <;> simp only [pd, Option.map_eq_some_iff, Option.some.injEq, reduceCtorEq] at h4
    case lst ys | tup ys => obtain ⟨fs, e2, rfl⟩ := h4; simp [PyData.eqv, peq]
    case scr ys => simp [fine] at h2
    case bl v => subst h4; simp only [PyData.eqv, peq]; cases u <;> cases v <;> rfl
    case int v => subst h4; simp only [PyData.eqv, peq]; cases u <;> rfl
    all_goals (subst h4; simp [PyData.eqv, peq])
  | .int u, b, n, m, x, y, h1, h2, h3, h4 => by
    cases h3
    cases b <;> simp only [pd, Option.map_eq_some_iff, Option.some.injEq, reduceCtorEq] at h4
    case lst ys | tup ys => obtain ⟨fs, e2, rfl⟩ := h4; simp [PyData.eqv, peq]
    case scr ys => simp [fine] at h2
    case bl v => subst h4; simp only [PyData.eqv, peq]; cases v <;> rfl
    case int v => subst h4; simp only [PyData.eqv, peq]; rfl
    all_goals (subst h4; simp [PyData.eqv, peq])
  | .str u, b, n, m, x, y, h1, h2, h3, h4 => by
    cases h3
    cases b <;> simp only [pd, Option.map_eq_some_iff, Option.some.injEq, reduceCtorEq] at h4
    case lst ys | tup ys => obtain ⟨fs, e2, rfl⟩ := h4; simp [PyData.eqv, peq]
    case scr ys => simp [fine] at h2
    case str v => subst h4; simp only [PyData.eqv, peq]; rfl
    all_goals (subst h4; simp [PyData.eqv, peq])
theorem eqvs_peq : ∀ {n m : Nat} {a b : List P} {x y : List PyData}, fines n a = true → fines m b = true → pds a = some x → pds b = some y → PyData.eqvAll x y = peqs a b
  | _, _, [], [], _, _, _, _, h3, h4 => by
    simp only [pds, Option.some.injEq] at h3 h4
    subst h3; subst h4
    simp [PyData.eqvAll, peqs]
  | n, m, a :: as, b :: bs, x, y, h1, h2, h3, h4 => by
    simp only [fines, Bool.and_eq_true] at h1 h2
    obtain ⟨e, p1, _⟩ := fine_pd h1.1
    obtain ⟨es, p2, _⟩ := fines_pd h1.2
    obtain ⟨f, q1, _⟩ := fine_pd h2.1
    obtain ⟨fs, q2, _⟩ := fines_pd h2.2
    simp only [pds, p1, p2, q1, q2, Option.some.injEq] at h3 h4
    subst h3; subst h4
    simp only [PyData.eqvAll, peqs]
    rw [eqv_peq h1.1 h2.1 p1 q1, eqvs_peq h1.2 h2.2 p2 q2]
  | n, m, [], b :: bs, x, y, h1, h2, h3, h4 => by
    simp only [fines, Bool.and_eq_true] at h2
    obtain ⟨f, q1, _⟩ := fine_pd h2.1
    obtain ⟨fs, q2, _⟩ := fines_pd h2.2
    simp only [pds, q1, q2, Option.some.injEq] at h3 h4
    subst h3; subst h4
    simp [PyData.eqvAll, peqs]
  | n, m, b :: bs, [], x, y, h2, h1, h3, h4 => by
    simp only [fines, Bool.and_eq_true] at h2
    obtain ⟨f, q1, _⟩ := fine_pd h2.1
    obtain ⟨fs, q2, _⟩ := fines_pd h2.2
    simp only [pds, q1, q2, Option.some.injEq] at h3 h4
    subst h3; subst h4
    simp [PyData.eqvAll, peqs]
end
theorem eq_P {a b : P} {neg : Bool} {S : Store} (ha : fine 64 a = true) (hb : fine 64 b = true) : dEqv neg (.p a) (.p b) S = .ok (.p (.bl (if neg then !peq a b else peq a b))) S := by
  obtain ⟨e, h1, h2, h3⟩ := fine_pd ha
  obtain ⟨f, g1, g2, g3⟩ := fine_pd hb
  unfold dEqv
  show (match pd a, pd b with | some e1, some e2 => _ | _, _ => _) = _
  rw [h1, g1]
  have s1 : SeqAt.shaped e = true := by simp [SeqAt.shaped, h2, h3]
  have s2 : SeqAt.shaped f = true := by simp [SeqAt.shaped, g2, g3]
  simp only [s1, s2, Bool.and_self, chk_true, eqv_peq ha hb h1 g1]
theorem eq_ii {i j : Int} {S : Store} : dEqv false (.p (.int i)) (.p (.int j)) S = .ok (.p (.bl (decide (i = j)))) S := by rw [eq_P (by simp [fine]) (by simp [fine])]; simp [peq]
theorem ne_ii {i j : Int} {S : Store} : dEqv true (.p (.int i)) (.p (.int j)) S = .ok (.p (.bl (!decide (i = j)))) S := by rw [eq_P (by simp [fine]) (by simp [fine])]; simp [peq]
end RB.F
/-! Running the functions: stores, loops, texts. -/
namespace RB.F
open PySem PySem.Spec PyProof.Rows L2 RB
def R.more (o : R) (k : Rho → Store → R) : R := match o with
  | .nx r S => k r S
  | .ct r S => k r S
  | .bk r S => .nx r S
  | .rt d S => .rt d S
  | .ex r x S => .ex r x S
  | .bad => .bad
theorem more_cg {o o' : R} {k : Rho → Store → R} (h : o = o') : o.more k = o'.more k := by rw [h]
theorem more_nx {r : Rho} {S : Store} {k : Rho → Store → R} : (R.nx r S).more k = k r S := (rfl)
theorem more_ct {r : Rho} {S : Store} {k : Rho → Store → R} : (R.ct r S).more k = k r S := (rfl)
theorem more_bk {r : Rho} {S : Store} {k : Rho → Store → R} : (R.bk r S).more k = .nx r S := (rfl)
theorem more_rt {d : D} {S : Store} {k : Rho → Store → R} : (R.rt d S).more k = .rt d S := (rfl)
theorem more_ex {r : Rho} {x : Exc} {S : Store} {k : Rho → Store → R} : (R.ex r x S).more k = .ex r x S := (rfl)
theorem forF_nil {T : Tgt} {f : FS} {r : Rho} {S : Store} : forF T f [] r S = .nx r S := (rfl)
theorem forF_cons {T : Tgt} {f : FS} {d : D} {ds : List D} {r : Rho} {S : Store} : forF T f (d :: ds) r S = match bindT T d r with
    | none => .bad
    | some r' => (f r' S).more (forF T f ds) := by
  rw [forF]
  cases bindT T d r with
  | none => rfl
  | some r' => dsimp only; cases f r' S <;> rfl
theorem get_app {S : Store} {c : Cell} : (S ++ [c])[S.length]? = some c := by simp
theorem set_app {S : Store} {c c' : Cell} : (S ++ [c]).set S.length c' = S ++ [c'] := by simp
theorem take_app {S T : Store} : (S ++ T).take S.length = S := by simp
theorem take_app2 {S : Store} {c c' : Cell} : (S ++ [c']).take (S ++ [c]).length = S ++ [c'] := by
  have : (S ++ [c]).length = (S ++ [c']).length := by simp
  rw [this, List.take_length]
theorem take_len_cons {S : Store} {c c' : Cell} : (c' :: S).take (c :: S).length = c' :: S := by simp
theorem charNat_inj {a b : Char} (h : a.toNat = b.toNat) : a = b := Char.ext (UInt32.toNat_inj.mp h)
theorem map_charNat_inj : ∀ {as bs : List Char}, as.map Char.toNat = bs.map Char.toNat → as = bs
  | [], [], _ => rfl
  | a :: as, b :: bs, h => by
    simp only [List.map_cons, List.cons.injEq] at h
    rw [charNat_inj h.1, map_charNat_inj h.2]
  | [], _ :: _, h => by cases h
  | _ :: _, [], h => by cases h
theorem of_inj {a b : String} : Str.ofString a = Str.ofString b ↔ a = b := by
  constructor
  · intro h
    rw [Str.ofString_eq_toList, Str.ofString_eq_toList] at h
    have h2 : (a.toList.map Char.toNat).toArray = (b.toList.map Char.toNat).toArray := by injection h
    have h3 := congrArg Array.toList h2
    simp only at h3
    exact String.toList_inj.mp (map_charNat_inj h3)
  · rintro rfl; rfl
theorem intsP_map {α : Type} (f : α → Int) : ∀ cs : List α, intsP (cs.map fun c => P.int (f c)) = some (cs.map f)
  | [] => rfl
  | c :: cs => by
    show (intsP (cs.map fun c => P.int (f c))).map _ = _
    rw [intsP_map f cs]
    rfl
theorem bls_map {α : Type} (f : α → Bool) : ∀ cs : List α, bls (cs.map fun c => P.bl (f c)) = some (cs.map f)
  | [] => rfl
  | c :: cs => by
    show (bls (cs.map fun c => P.bl (f c))).map _ = _
    rw [bls_map f cs]
    rfl
theorem atI0 {α : Type} {a : α} {r : List α} : atI (a :: r) 0 = some a := by
  unfold atI ixN
  rw [if_pos (Int.le_refl 0), if_pos (by rw [List.length_cons]; omega)]
  rfl
theorem atI1 {α : Type} {a b : α} {r : List α} : atI (a :: b :: r) 1 = some b := by
  unfold atI ixN
  rw [if_pos (by decide), if_pos (by simp only [List.length_cons]; omega)]
  rfl
theorem atI2 {α : Type} {a b c : α} {r : List α} : atI (a :: b :: c :: r) 2 = some c := by
  unfold atI ixN
  rw [if_pos (by decide), if_pos (by simp only [List.length_cons]; omega)]
  rfl
theorem atI3 {α : Type} {a b c d : α} {r : List α} : atI (a :: b :: c :: d :: r) 3 = some d := by
  unfold atI ixN
  rw [if_pos (by decide), if_pos (by simp only [List.length_cons]; omega)]
  rfl
theorem atI4 {α : Type} {a b c d e : α} {r : List α} : atI (a :: b :: c :: d :: e :: r) 4 = some e := by
  unfold atI ixN
  rw [if_pos (by decide), if_pos (by simp only [List.length_cons]; omega)]
  rfl
/-- an item at a drawn place -/
theorem atI_lt {α : Type} {xs : List α} {i : Int} (h0 : 0 ≤ i) (h1 : i < xs.length) : ∃ x, atI xs i = some x ∧ x ∈ xs := by
  obtain ⟨k, rfl⟩ := Int.eq_ofNat_of_zero_le h0
  have hk : k < xs.length := by omega
  refine ⟨xs[k], ?_, List.getElem_mem _⟩
  unfold atI ixN
  rw [if_pos h0, if_pos h1]
  simp
theorem atI_last {α : Type} {xs : List α} {x : α} : atI (xs ++ [x]) (-1) = some x := by
  unfold atI ixN
  rw [if_neg (by decide), if_pos (by simp only [List.length_append, List.length_cons, List.length_nil]; omega)]
  have : (-1 + ((xs ++ [x]).length : Int)).toNat = xs.length := by
    simp only [List.length_append, List.length_cons, List.length_nil]
    omega
  simp only [Option.bind_some, this]
  simp
theorem strOk_of {x : Str} (h : ∀ c ∈ x.cps.toList, c < 1114112) : PyData.strOk x = true := by
  unfold PyData.strOk
  rw [Array.all_eq_true]
  intro i hi
  have := h x.cps[i] (by simp)
  simpa using this
theorem cutP_1 {α : Type} {xs : List α} : cutP xs (some 1) none = xs.drop 1 := by
  unfold cutP
  rw [HT.sIx_none, show (1 : Int) = ((1 : Nat) : Int) from rfl, HT.sIx_nat]
  by_cases h : 1 ≤ xs.length
  · rw [Nat.min_eq_left h]
    exact List.take_of_length_le (by simp)
  · have : xs = [] := List.eq_nil_of_length_eq_zero (by omega)
    subst this
    rfl
end RB.F
/-! Running the functions: what stands behind the next step is kept closed. -/
namespace RB.F
open PySem PySem.Spec PyProof.Rows L2 RB
section
variable {p q : P2} {f f1 f2 f3 : FE} {t u : FT} {fa fk fi : FA} {r : Rho} {S : Store} {g g1 g2 : FS}
theorem nat10 : Int.natAbs 10 = 10 := (rfl)
theorem nat2 : Int.natAbs 2 = 2 := (rfl)
theorem nat64 : Int.natAbs 64 = 64 := (rfl)
theorem mkF_ex {y : Exc} {S : Store} {n : Nat} : mkF (.ex y S) n = .ex y (S.take n) := (rfl)
theorem mkF_ok {S : Store} {n : Nat} : mkF (.ok (.p .non) S) n = match S[n]? with
    | some (.obj c' ns vs) => .ok (.p (.obj c' ns vs)) (S.take n)
    | _ => .bad := (rfl)
def binK (p : P2) (f2 : FE) (r : Rho) (d1 : D) (S1 : Store) : O D := (f2 r S1).bind (p d1)
theorem wBin_e : wBin p f1 f2 r S = (f1 r S).bind (binK p f2 r) := (rfl)
def consK2 (d : D) (ds : List D) (S2 : Store) : O (List D) := .ok (d :: ds) S2
def consK (fa : FA) (r : Rho) (d : D) (S1 : Store) : O (List D) := (fa r S1).bind (consK2 d)
theorem wCons_e : wCons f fa r S = (f r S).bind (consK fa r) := (rfl)
def dispK (mk : List P → P) (ds : List D) (S1 : Store) : O D := match allP ds with
  | some ps => chk (decide (ps.length ≤ sizeLine)) (.p (mk ps)) S1
  | none => .bad
theorem wDisp_e {mk : List P → P} : wDisp mk fa r S = (fa r S).bind (dispK mk) := (rfl)
def newK (ds : List D) (S1 : Store) : O D := match allP ds with
  | some ps => chk (decide (ps.length ≤ sizeLine)) (.cell S1.length) (S1 ++ [.lst ps])
  | none => .bad
theorem wNewL_e : wNewL fa r S = (fa r S).bind newK := (rfl)
def testK (d : D) (S1 : Store) : O Bool := match d with
  | .p (.bl b) => .ok b S1
  | _ => .bad
theorem testK_e {b : Bool} : testK (.p (.bl b)) S = .ok b S := (rfl)
theorem wTest_e : wTest f r S = (f r S).bind testK := (rfl)
def andK (u : FT) (r : Rho) (b : Bool) (S1 : Store) : O Bool := if b = true then u r S1 else .ok false S1
theorem wAnd_e : wAnd t u r S = (t r S).bind (andK u r) := (rfl)
def orK (u : FT) (r : Rho) (b : Bool) (S1 : Store) : O Bool := if b = true then .ok true S1 else u r S1
theorem wOr_e : wOr t u r S = (t r S).bind (orK u r) := (rfl)
def notK (b : Bool) (S1 : Store) : O Bool := .ok (!b) S1
theorem wNot_e : wNot t r S = (t r S).bind notK := (rfl)
def andVK (f2 : FE) (r : Rho) (d : D) (S1 : Store) : O D := match d with
  | .p (.bl true) => f2 r S1
  | .p (.bl false) => .ok (.p (.bl false)) S1
  | _ => .bad
theorem andVK_t : andVK f2 r (.p (.bl true)) S = f2 r S := (rfl)
theorem andVK_f : andVK f2 r (.p (.bl false)) S = .ok (.p (.bl false)) S := (rfl)
theorem wAndV_e : wAndV f1 f2 r S = (f1 r S).bind (andVK f2 r) := (rfl)
def orVK (f2 : FE) (r : Rho) (d : D) (S1 : Store) : O D := match d with
  | .p (.bl true) => .ok (.p (.bl true)) S1
  | .p (.bl false) => f2 r S1
  | _ => .bad
theorem orVK_t : orVK f2 r (.p (.bl true)) S = .ok (.p (.bl true)) S := (rfl)
theorem orVK_f : orVK f2 r (.p (.bl false)) S = f2 r S := (rfl)
theorem wOrV_e : wOrV f1 f2 r S = (f1 r S).bind (orVK f2 r) := (rfl)
def notVK (d : D) (S1 : Store) : O D := match d with
  | .p (.bl b) => .ok (.p (.bl (!b))) S1
  | _ => .bad
theorem notVK_e {b : Bool} : notVK (.p (.bl b)) S = .ok (.p (.bl (!b))) S := (rfl)
theorem wNotV_e : wNotV f r S = (f r S).bind notVK := (rfl)
def ifEK (f1 f2 : FE) (r : Rho) (b : Bool) (S1 : Store) : O D := if b = true then f1 r S1 else f2 r S1
theorem wIf_e : wIf t f1 f2 r S = (t r S).bind (ifEK f1 f2 r) := (rfl)
def chK3 (q : P2) (f3 : FE) (r : Rho) (d2 : D) (z : D) (S3 : Store) : O D := match z with
  | .p (.bl true) => (f3 r S3).bind (q d2)
  | .p (.bl false) => .ok (.p (.bl false)) S3
  | _ => .bad
theorem chK3_t {d2 : D} : chK3 q f3 r d2 (.p (.bl true)) S = (f3 r S).bind (q d2) := (rfl)
theorem chK3_f {d2 : D} : chK3 q f3 r d2 (.p (.bl false)) S = .ok (.p (.bl false)) S := (rfl)
def chK2 (p q : P2) (f3 : FE) (r : Rho) (d1 d2 : D) (S2 : Store) : O D := (p d1 d2 S2).bind (chK3 q f3 r d2)
def chK1 (p q : P2) (f2 f3 : FE) (r : Rho) (d1 : D) (S1 : Store) : O D := (f2 r S1).bind (chK2 p q f3 r d1)
theorem wChain_e : wChain p q f1 f2 f3 r S = (f1 r S).bind (chK1 p q f2 f3 r) := (rfl)
def partK (d : D) (S1 : Store) : O (Option Int) := match d with
  | .p (.int i) => .ok (some i) S1
  | _ => .bad
theorem partK_e {i : Int} : partK (.p (.int i)) S = .ok (some i) S := (rfl)
theorem wPart_e : wPart f r S = (f r S).bind partK := (rfl)
def slK2 (d : D) (lo : Option Int) (hi : Option Int) (S3 : Store) : O D := dSl d lo hi S3
def slK1 (fh : FO) (r : Rho) (d : D) (lo : Option Int) (S2 : Store) : O D := (fh r S2).bind (slK2 d lo)
def slK (fl fh : FO) (r : Rho) (d : D) (S1 : Store) : O D := (fl r S1).bind (slK1 fh r d)
theorem wSl_e {fl fh : FO} : wSl f fl fh r S = (f r S).bind (slK fl fh r) := (rfl)
def joinK2 (a : Str) (d2 : D) (S2 : Store) : O D := dJoin (.p (.str a)) d2 S2
def joinK (f2 : FE) (r : Rho) (d1 : D) (S1 : Store) : O D := match d1 with
  | .p (.str a) => (f2 r S1).bind (joinK2 a)
  | _ => .bad
theorem wJoin_e : wJoin f1 f2 r S = (f1 r S).bind (joinK f2 r) := (rfl)
theorem joinK_e {a : Str} : joinK f2 r (.p (.str a)) S = (f2 r S).bind (joinK2 a) := (rfl)
def isi2K (T T' : String) (d : D) (S1 : Store) : O D := match tyS S1 d with
  | some t => .ok (.p (.bl (isB t T || isB t T'))) S1
  | none => .bad
theorem wIsi2_e {T T' : String} : wIsi2 T T' f r S = (f r S).bind (isi2K T T') := (rfl)
def dictK (fin : List Key → List P → Store → O D) (ps : List (D × D)) (S1 : Store) : O D := match kvsOf ps with
  | some (ks, vs) => if nodupB ks && decide (ks.length ≤ 15) then fin ks vs S1 else .bad
  | none => .bad
theorem wDict_e {fin : List Key → List P → Store → O D} {ms : List (FE × FE)} : wDict fin ms r S = (wPairs ms r S).bind (dictK fin) := (rfl)
def itK (d : D) (S1 : Store) : O (List D) := match itemsOf S1 d with
  | some ds => .ok ds S1
  | none => .bad
theorem wIt_e : wIt f r S = (f r S).bind itK := (rfl)
def rngK (ds : List D) (S1 : Store) : O (List D) := match ds with
  | [.p (.int j)] => chkA (in62 j) (rngD 0 j.toNat) S1
  | [.p (.int i), .p (.int j)] => chkA (in62 i && in62 j) (rngD i (j - i).toNat) S1
  | _ => .bad
theorem rngK_1 {j : Int} : rngK [.p (.int j)] S = chkA (in62 j) (rngD 0 j.toNat) S := (rfl)
theorem rngK_2 {i j : Int} : rngK [.p (.int i), .p (.int j)] S = chkA (in62 i && in62 j) (rngD i (j - i).toNat) S := (rfl)
theorem wRng_e : wRng fa r S = (fa r S).bind rngK := (rfl)
def zipK (ds : List D) (S1 : Store) : O (List D) := match ds with
  | [d1, d2] => match zipP d1 d2 with
    | some ds => .ok ds S1
    | none => .bad
  | _ => .bad
theorem wZip_e : wZip fa r S = (fa r S).bind zipK := (rfl)
def enumK (ds : List D) (S1 : Store) : O (List D) := match ds with
  | [.p (.lst xs)] => .ok (enumP xs) S1
  | _ => .bad
theorem enumK_e {xs : List P} : enumK [.p (.lst xs)] S = .ok (enumP xs) S := (rfl)
theorem wEnum_e : wEnum fa r S = (fa r S).bind enumK := (rfl)
def lstK (ps : List P) (S2 : Store) : O D := .ok (.p (.lst ps)) S2
def lcK (T : Tgt) (ft : FT) (fe : FE) (r0 : Rho) (ds : List D) (S1 : Store) : O D := (lcF T ft fe r0 ds 0 S1).bind lstK
theorem wLC_e {T : Tgt} {vs : List Nat} : wLC fi T t f vs r S = (fi r S).bind (lcK T t f (wipeR r vs)) := (rfl)
def retK (d : D) (S1 : Store) : R := .rt d S1
theorem wRet_e : wRet f r S = (f r S).st r retK := (rfl)
def dropK (r : Rho) (_ : D) (S1 : Store) : R := .nx r S1
theorem wDrop_e : wDrop f r S = (f r S).st r (dropK r) := (rfl)
def setK (i : Nat) (r : Rho) (d : D) (S1 : Store) : R := .nx (r.set i (some d)) S1
theorem wSet_e {i : Nat} : wSet i f r S = (f r S).st r (setK i r) := (rfl)
def ifK (g1 g2 : FS) (r : Rho) (b : Bool) (S1 : Store) : R := if b = true then g1 r S1 else g2 r S1
theorem wIfS_e : wIfS t g1 g2 r S = (t r S).st r (ifK g1 g2 r) := (rfl)
def forK (T : Tgt) (g : FS) (r : Rho) (ds : List D) (S1 : Store) : R := forF T g ds r S1
theorem wFor_e {T : Tgt} : wFor fi T g r S = (fi r S).st r (forK T g r) := (rfl)
def nextK (r : Rho) (_ : Unit) (S4 : Store) : R := .nx r S4
def putK2 (pp : D → D → D → Store → O Unit) (r : Rho) (dv d di : D) (S3 : Store) : R := (pp d di dv S3).st r (nextK r)
def putK1 (pp : D → D → D → Store → O Unit) (fi : FE) (r : Rho) (dv d : D) (S2 : Store) : R := (fi r S2).st r (putK2 pp r dv d)
def putK (pp : D → D → D → Store → O Unit) (fo fi : FE) (r : Rho) (dv : D) (S1 : Store) : R := (fo r S1).st r (putK1 pp fi r dv)
theorem wPut3_e {pp : D → D → D → Store → O Unit} {fo fi fv : FE} : wPut3 pp fo fi fv r S = (fv r S).st r (putK pp fo fi r) := (rfl)
def fsetK1 (cs : List String) (n : Str) (r : Rho) (dv d : D) (S2 : Store) : R := (dFSet cs n d dv S2).st r (nextK r)
def fsetK (cs : List String) (n : Str) (fo : FE) (r : Rho) (dv : D) (S1 : Store) : R := (fo r S1).st r (fsetK1 cs n r dv)
theorem wFSet_e {cs : List String} {n : Str} {fo fv : FE} : wFSet cs n fo fv r S = (fv r S).st r (fsetK cs n fo r) := (rfl)
def par2K (i j : Nat) (r : Rho) (ds : List D) (S1 : Store) : R := match ds with
  | [d1, d2] => .nx ((r.set i (some d1)).set j (some d2)) S1
  | _ => .bad
theorem par2K_e {i j : Nat} {d1 d2 : D} : par2K i j r [d1, d2] S = .nx ((r.set i (some d1)).set j (some d2)) S := (rfl)
theorem wPar2_e {i j : Nat} : wPar2 i j fa r S = (fa r S).st r (par2K i j r) := (rfl)
def par3K (i j l : Nat) (r : Rho) (ds : List D) (S1 : Store) : R := match ds with
  | [d1, d2, d3] => .nx (((r.set i (some d1)).set j (some d2)).set l (some d3)) S1
  | _ => .bad
theorem par3K_e {i j l : Nat} {d1 d2 d3 : D} : par3K i j l r [d1, d2, d3] S = .nx (((r.set i (some d1)).set j (some d2)).set l (some d3)) S := (rfl)
theorem wPar3_e {i j l : Nat} : wPar3 i j l fa r S = (fa r S).st r (par3K i j l r) := (rfl)
def asgK (is : List Nat) (r : Rho) (d : D) (S1 : Store) : R := match seqD S1 d with
  | some ps => if decide (ps.length = is.length) then .nx (setAll is ps r) S1 else .bad
  | none => .bad
theorem wAsgT_e {is : List Nat} : wAsgT is f r S = (f r S).st r (asgK is r) := (rfl)
def raiseK (c : String) (fs : List Str) (r : Rho) (ds : List D) (S1 : Store) : R := match allP ds with
  | some ps => if decide (ps.length = fs.length) && decide (fs.length ≤ 900) then .ex r ⟨c, fs.reverse, ps.reverse⟩ S1 else .bad
  | none => .bad
theorem wRaise_e {c : String} {fs : List Str} : wRaise c fs fa r S = (fa r S).st r (raiseK c fs r) := (rfl)
def callKK (m : FD) (gg : List D → List D) (zs : List D) (S1 : Store) : O D := m (gg zs) S1
theorem wCallK_e {m : FD} {gg : List D → List D} : wCallK m gg fk r S = (fk r S).bind (callKK m gg) := (rfl)
def bmK (T : String) (qq : PM) (fa : FA) (r : Rho) (d : D) (S1 : Store) : O D := if tyS S1 d = some T then (fa r S1).bind (qq d) else .bad
theorem wBM_e {T : String} {qq : PM} {fo : FE} : wBM T qq fo fa r S = (fo r S).bind (bmK T qq fa r) := (rfl)
def makeK2 (c : String) (mf : FD) (n m : Nat) (gD : List D → List D → List D) (ds es : List D) (S2 : Store) : O D := if decide (ds.length = n) && decide (es.length = m) then mkF (mf (gD (.cell S2.length :: ds) es) (S2 ++ [.obj c [] []])) S2.length else .bad
def makeK (c : String) (mf : FD) (n m : Nat) (gD : List D → List D → List D) (fk : FA) (r : Rho) (ds : List D) (S1 : Store) : O D := (fk r S1).bind (makeK2 c mf n m gD ds)
theorem wMake_e {c : String} {mf : FD} {n m : Nat} {gD : List D → List D → List D} : wMake c mf n m gD fa fk r S = (fa r S).bind (makeK c mf n m gD fk r) := (rfl)
def methK2 (mf : FD) (gD : List D → List D) (d : D) (ds : List D) (S1 : Store) : O D := mf (gD (d :: ds)) S1
def methK (m : Str) (tab : FTab) (fa : FA) (r : Rho) (d : D) (S0 : Store) : O D := match objOf S0 d with
  | some (c, ns, _) => match tab.lookup c with
    | some q => if ns.contains m then .bad else (fa r S0).bind (methK2 q.1 q.2 d)
    | none => .bad
  | none => .bad
theorem wMeth_e {m : Str} {tab : FTab} {fo : FE} : wMeth m tab fo fa r S = (fo r S).bind (methK m tab fa r) := (rfl)
end
end RB.F
/-! More words: xs[::-1], things made without positional arguments, arguments that are left out. -/
namespace RB.F
open PySem PySem.Spec PyProof.Rows L2 RB
theorem RB.Reps.reverse {G : Glob} {I : Hp} : ∀ {ds : List P} {vs : List V}, Reps G I vs ds → Reps G I vs.reverse ds.reverse
  | [], _, h => by simp only [Reps] at h; subst h; simpa using Reps.nil
  | d :: ds, _, h => by
    simp only [Reps] at h
    obtain ⟨v, r, e', h1, h2⟩ := h
    subst e'
    rw [List.reverse_cons, List.reverse_cons]
    exact (RB.Reps.reverse h2).append (Reps.cons h1 Reps.nil)
section
variable {G : Glob} {X : Cx} {W : WX} {e : Expr} {f : FE} {r : Rho} {S : Store}
def revK (d : D) (S1 : Store) : O D := match asL S1 d with
  | some ds => .ok (.p (.lst ds.reverse)) S1
  | none => .bad
def wRevL (f : FE) (r : Rho) (S : Store) : O D := (f r S).bind revK
theorem re_revL {k : Nat} {p1 p2 p3 pos : Pos} (hK : X.K = G.K) (he : RE G X W e f) : RE G X W (.Subscript e (.Slice none none (some (.UnaryOp .USub (.Constant (.int 1) k p1) p2)) p3) pos) (wRevL f) := by
  refine ⟨PE.imp (pe_revL he.pe) fun σ H Q ⟨w, S, ρ, ok, en, q⟩ => ?_, lf_mon _⟩
  unfold lf wRevL at q
  rw [out_bind] at q
  refine tM.bind (lf_mon f) ok en q (fun _ _ _ z => z) fun d S' v w' H' x k r1 q => ?_
  unfold revK at q
  split at q
  · rename_i ds e1
    obtain ⟨a, vs, rfl, h1, h2⟩ := asL_ok k r1 e1
    refine ⟨a, vs, rfl, by rw [hK]; exact h1, fun p hp => ?_⟩
    exact new_lst k (Qv.ext x q) (RB.Reps.reverse h2) hp
  · exact q.elim
end
/-! ### arguments that are left out -/
abbrev pk {α : Type} (i : Nat) (l : List α) : List α := (l.drop i).take 1
theorem vpk {i : Nat} {xs : List V} {us : List Value} (h : Vals xs us) : Vals (pk i xs) (pk i us) := (h.drop i).take 1
theorem RepDs.drop {G : Glob} {w : Wd} : ∀ {vs : List V} {ds : List D} (n : Nat), RepDs G w vs ds → RepDs G w (vs.drop n) (ds.drop n)
  | _, _, 0, h => by simpa using h
  | [], [], n + 1, h => h
  | _ :: _, _ :: _, n + 1, ⟨_, t⟩ => RepDs.drop n t
  | [], _ :: _, _ + 1, h => h.elim
  | _ :: _, [], _ + 1, h => h.elim
theorem RepDs.take {G : Glob} {w : Wd} : ∀ {vs : List V} {ds : List D} (n : Nat), RepDs G w vs ds → RepDs G w (vs.take n) (ds.take n)
  | _, _, 0, h => by simp only [List.take_zero]; trivial
  | [], [], n + 1, h => h
  | _ :: _, _ :: _, n + 1, ⟨a, t⟩ => ⟨a, RepDs.take n t⟩
  | [], _ :: _, _ + 1, h => h.elim
  | _ :: _, [], _ + 1, h => h.elim
theorem dpk {G : Glob} {w : Wd} {i : Nat} {vs : List V} {ds : List D} (h : RepDs G w vs ds) : RepDs G w (pk i vs) (pk i ds) := RepDs.take 1 (RepDs.drop i h)
/-- the empty tuple that stands as a default -/
def tupEB (K : PySem.W.Frag) (a : Addr) : Bool := match K.lookup a with
  | some o => decide (o.cls = .type "tuple") && (match o.data with
    | .seq its _ => decide (its.size = 0)
    | _ => false)
  | none => false
theorem tupEB_ok {G : Glob} {a : Addr} (h : tupEB G.K a = true) (w : Wd) : RepD G w (.ref a) (.p (.tup [])) := by
  unfold tupEB at h
  split at h
  · rename_i o ho
    simp only [Bool.and_eq_true, decide_eq_true_eq] at h
    obtain ⟨h1, h2⟩ := h
    split at h2
    · rename_i its n e
      have e0 := of_decide_eq_true h2
      refine rep_tup.mpr ⟨a, [], rfl, .inr ⟨o, its, n, ho, h1, e, by omega, ?_⟩, Reps.nil⟩
      have : its.toList = [] := by
        apply List.eq_nil_of_length_eq_zero
        simpa using e0
      rw [this]
      exact .nil
    · cases h2
  · cases h
/-! ### things made without positional arguments -/
section
variable {G : Glob} {X : Cx} {W : WX} {n k m : Nat} {f Cc : Addr} {fd : FuncData} {ps ks : List Str} {gD : List D → List D → List D} {x : Str} {p pos : Pos} {kws : List Keyword} {c : String}
theorem RB.re_make0 {sp : DSp} (C : CxG G X W n) (M : Mk X.K Cc f) (F : FnG G X.prog X.w X.mg X.base k f fd ps sp) (hk : k + 1 ≤ n) (hc : G.cls c = some Cc) (hi : G.isE c = false) (hg : Gl X x) (hm : X.mg x = some (.ref Cc)) (hb : Bd G X.K fd ps 1 [] gD)
    (hdb : (x == ("__debug__" : Str)) = false := by decide) : RB.RE G X W (.Call (.Name x p) [] [] pos) (RB.wMake c sp 0 0 gD RB.wNil RB.wNil) := by
  obtain ⟨g, gV, hb, hr⟩ := hb
  refine ⟨⟨fun pins s σ H Q J ⟨w, S, r, ok, en, q⟩ => ?_⟩, mon_make F.mono (fun _ _ _ _ _ _ hq _ h => hq _ _ h) (fun _ _ _ _ _ _ hq _ h => hq _ _ h)⟩
  refine wpAny_Call_Name_kw (ld_glob J hg hm ?_ hdb)
  obtain ⟨l1, l2, u⟩ := q
  refine PySem.W.callWith_K0 J.kIn M.kp ?_
  refine run_mk (ks := []) (ws := []) (zs := []) (us := []) (vs := []) (m := 0) C M F hk hb J .nil .nil rfl rfl fun y dx ny nd ne => ?_
  exact make_low F.mono hc hi ok ny nd ne (dd := fun d => gD [d] []) (fun w' x' ry => hr w' _ _ _ _ ⟨ry, trivial⟩ trivial) u
theorem RB.re_makeK0 {sp : DSp} {mk : WA} (C : CxG G X W n) (M : Mk X.K Cc f) (F : FnG G X.prog X.w X.mg X.base k f fd ps sp) (hk : k + 1 ≤ n) (hc : G.cls c = some Cc) (hi : G.isE c = false) (hg : Gl X x) (hm : X.mg x = some (.ref Cc)) (hb : Bd G X.K fd ps 1 ks gD) (hkw : RB.RK G X W kws mk)
    (hall : (backToKw pos (keywordEach kws X.env)).all (·.1.isSome) = true := by rfl) (hks : (backToKw pos (keywordEach kws X.env)).filterMap (·.1) = ks := by rfl) (hdb : (x == ("__debug__" : Str)) = false := by decide)
    (hpl : ((backTo pos (starEach [] X.env)).any (·.1) || (backToKw pos (keywordEach kws X.env)).any (·.1.isNone)) = false := by rfl) : RB.RE G X W (.Call (.Name x p) [] kws pos) (RB.wMake c sp 0 ks.length gD RB.wNil mk) := by
  obtain ⟨g, gV, hb, hr⟩ := hb
  refine ⟨⟨fun pins s σ H Q J ⟨w, S, r, ok, en, q⟩ => ?_⟩, mon_make F.mono (fun _ _ _ _ _ _ hq _ h => hq _ _ h) hkw.mono⟩
  refine wpAny_Call_Name_kw (ld_glob J hg hm ?_ hdb)
  have h1 : tMa G W mk σ H fun zs H2 => zs.length = ks.length ∧ ∀ y dx, H2 y = none → H2 dx = none → dx ≠ y → spV G sp (gV [.ref y] zs) (L2.upd (L2.upd H2 dx (.own y)) y (.ins Cc dx [])) (fun v H3 => v = .non ∧ Q (.ref y) H3) fun c d H' => W c d σ H' := by
    refine ⟨w, S, r, ok, en, hkw.mono r S _ _ _ _ (fun es' S2 u zs w2 H2 x2 k2 r2 => ?_) (fun _ _ u => u) q⟩
    obtain ⟨l1, l2, u⟩ := u
    refine ⟨by rw [r2.length, l2], fun y dx ny nd ne => ?_⟩
    exact make_low F.mono hc hi k2 ny nd ne (dd := fun d => gD [d] es') (fun w' x' ry => hr w' _ _ _ _ ⟨ry, trivial⟩ (r2.mono x')) (dMake_mono F.mono (fun _ _ v => v.ext x2) (fun _ _ v => v.ext x2) u)
  refine PySem.W.callWith_KW0 (h₀ := X.base) J.ok.mod.kin M.kp hall ?_ hpl
  refine thn (hkw.pk.run pos pins s σ H _ J h1) fun ws s2 ⟨zs, H2, J2, rz, l2, q2⟩ => ⟨J2.kIn, ?_⟩
  rw [hks]
  exact run_mk (us := []) (vs := []) (m := 0) C M F hk hb J2 .nil rz rfl l2 q2
theorem re_make0 {mf : FD} (C : CxG G X W n) (M : Mk X.K Cc f) (F : FnG G X.prog X.w X.mg X.base k f fd ps (spF mf)) (hk : k + 1 ≤ n) (hc : G.cls c = some Cc) (hi : G.isE c = false) (hg : Gl X x) (hm : X.mg x = some (.ref Cc)) (hb : Bd G X.K fd ps 1 [] gD)
    (hdb : (x == ("__debug__" : Str)) = false := by decide) : RE G X W (.Call (.Name x p) [] [] pos) (wMake c mf 0 0 gD wNil wNil) := RE.of (RB.re_make0 C M F hk hc hi hg hm hb hdb) fun r S Q E h => make_in (fa := wNil) (fk := wNil) h
theorem re_makeK0 {mf : FD} {fk : FA} (C : CxG G X W n) (M : Mk X.K Cc f) (F : FnG G X.prog X.w X.mg X.base k f fd ps (spF mf)) (hk : k + 1 ≤ n) (hc : G.cls c = some Cc) (hi : G.isE c = false) (hg : Gl X x) (hm : X.mg x = some (.ref Cc)) (hb : Bd G X.K fd ps 1 ks gD) (hkw : RK G X W kws fk)
    (hall : (backToKw pos (keywordEach kws X.env)).all (·.1.isSome) = true := by rfl) (hks : (backToKw pos (keywordEach kws X.env)).filterMap (·.1) = ks := by rfl) (hdb : (x == ("__debug__" : Str)) = false := by decide)
    (hpl : ((backTo pos (starEach [] X.env)).any (·.1) || (backToKw pos (keywordEach kws X.env)).any (·.1.isNone)) = false := by rfl) : RE G X W (.Call (.Name x p) [] kws pos) (wMake c mf 0 ks.length gD wNil fk) := RE.of (RB.re_makeK0 C M F hk hc hi hg hm hb hkw hall hks hdb hpl) fun r S Q E h => make_in (fa := wNil) h
end
end RB.F
/-! More words: methods by tables, starred items and targets, name op= value. -/
namespace RB.F
open PySem PySem.Spec PyProof.Rows L2 RB
/-! ### tables of methods -/
section
variable {G : Glob} {X : Cx} {W : WX} {n k : Nat} {m : Str}
theorem mt_nil : ∀ q ∈ ([] : FTab), MtC G X n m q.1 q.2.1 q.2.2 := fun _ h => nomatch h
theorem mt_cons {c : String} {mf : FD} {g : List D → List D} {tab : FTab} (h : MtC G X n m c mf g) (t : ∀ q ∈ tab, MtC G X n m q.1 q.2.1 q.2.2) : ∀ q ∈ (c, mf, g) :: tab, MtC G X n m q.1 q.2.1 q.2.2 := fun q hq => by
  rcases List.mem_cons.mp hq with rfl | hq
  · exact h
  · exact t q hq
theorem mt_mk {c : String} {mf : FD} {Cc f : Addr} {fd : FuncData} {ps : List Str} (C : CxG G X W n) (hc : G.cls c = some Cc) (hi : G.isE c = false) (cl : Cls G.K Cc) (me : Meth G.K Cc m f) (F : FnG G X.prog X.w X.mg X.base k f fd ps (spF mf)) (hk : k ≤ n) (hb : Binds G.K fd ps []) : MtC G X n m c mf (fun ds => ds) := by
  have e := C.hK
  refine ⟨hi, spF_mon _, Cc, f, fd, ps, k, [], [], hc, by rw [e]; exact cl, by rw [e]; exact me, F, hk, by rw [e]; exact hb, .nil, fun w vs es r => ?_⟩
  rw [List.append_nil]
  exact r
end
/-! ### (*xs, ..) -/
section
variable {G : Glob} {X : Cx} {W : WX} {e : Expr} {es : List Expr} {p : Pos}
def starK2 (ps : List P) (ds : List D) (S2 : Store) : O (List D) := .ok (ps.map D.p ++ ds) S2
def starK (t : FA) (r : Rho) (d : D) (S1 : Store) : O (List D) := match asQ S1 d with
  | some ps => (t r S1).bind (starK2 ps)
  | none => .bad
def wStar (f : FE) (t : FA) (r : Rho) (S : Store) : O (List D) := (f r S).bind (starK t r)
theorem repDs_map {w : Wd} : ∀ {ps : List P} {vs : List V}, Reps G w.I vs ps → RepDs G w vs (ps.map D.p)
  | [], _, h => by simp only [Reps] at h; subst h; trivial
  | d :: ds, _, h => by
    simp only [Reps] at h
    obtain ⟨v, r, e', h1, h2⟩ := h
    subst e'
    exact ⟨h1, repDs_map h2⟩
theorem ra_star {f : FE} {t : FA} (hK : X.K = G.K) (he : RE G X W e f) (hr : RA G X W es t) (hs : starEach (.Starred e p :: es) X.env = (true, eval e X.env) :: starEach es X.env := by rfl) : RA G X W (.Starred e p :: es) (wStar f t) := by
  refine ⟨PA.imp (StX.pa_star he.pe hr.pe hs) fun σ H Q ⟨w, S, ρ, ok, en, q⟩ => ?_, lf_mon _⟩
  unfold lf wStar at q
  rw [out_bind] at q
  refine tM.bind (lf_mon f) ok en q (fun _ _ _ z => z) fun d S1 v w1 H1 x1 k1 r1 q1 => ?_
  unfold starK at q1
  split at q1
  · rename_i ps e1
    rw [out_bind] at q1
    obtain ⟨a, vs, rfl, h1, h2⟩ := asQ_ok k1 r1 e1
    refine ⟨a, vs, rfl, ?_, w1, S1, ρ, k1, en.mono x1, ?_⟩
    · rw [hK]
      exact h1.symm
    · refine out_mono q1 (fun ds S2 q2 ys w2 H2 x2 k2 r2 => ?_) fun y S' z => Qx.ext x1 z
      exact q2 (vs ++ ys) w2 H2 (x1.trans x2) k2 (RepDs.append (RepDs.mono x2 (repDs_map h2)) r2)
  · exact q1.elim
end
/-! ### *a, b = .. -/
section
variable {X : Cx} {pos p : Pos}
theorem pgs_star {e : Expr} {es : List Expr} {t : TG} {u : TGs} (h1 : PG X e t) (h2 : PGs X es u)
    (hs : (assignEach (.Starred e p :: es) X.env).map (·.2) = assign e X.env :: (assignEach es X.env).map (·.2) := by rfl) : PGs X (.Starred e p :: es) (gCons t u) := by
  refine ⟨fun pins s σ H vs us Q I r h => ?_⟩
  obtain ⟨v, vr, e1, h⟩ := h
  subst e1
  cases r with
  | cons r rr =>
    rw [hs]
    refine assignInOrder_cons (thn (h1.run pins s σ H _ _ _ I r h) fun _ s1 ⟨σ1, H1, I1, q1⟩ => ?_)
    exact h2.run pins s1 σ1 H1 _ _ Q I1 rr q1
def gStarT (K : PySem.W.Frag) (n i : Nat) (t : TGs) : TG := fun v σ H Q => ∃ a xs, v = .ref a ∧ SqT K H a xs ∧ n ≤ xs.length + 1 ∧ xs.length ≤ 16384 ∧
  ∀ p, H p = none → t (xs.take i ++ [.ref p] ++ (xs.drop i).drop (xs.length + 1 - n)) σ (L2.upd H p (.lst ((xs.drop i).take (xs.length + 1 - n)))) Q
theorem pg_starT {es : List Expr} {k n i : Nat} {t : TGs} (hc : X.calm = true) (h : PGs X es t) (hn : (assignEach es X.env).length = n) (hst : (assignEach es X.env).findIdx? (·.1) = some i) (hi : i < n) : PG X (.Tuple es k pos) (gStarT X.K n i t) := by
  refine ⟨fun pins s σ H v u Q I r hw => ?_⟩
  obtain ⟨l, xs, e1, hq, hl, hz, hw⟩ := hw
  subst e1
  cases r
  obtain ⟨its, rv, ht, _⟩ := I.tuple hq
  have hh := I.ok.hd hc
  have hlen := rv.length
  have hsz : its.toArray.size = xs.length := by rw [List.size_toArray]; exact hlen.symm
  rw [assign_Tuple]
  refine wpAny_bind (wpAny_standAt ?_)
  unfold unpack
  rw [hn, hst]
  refine wpAny_bind (wpAny_holding ?_)
  have hlt : l ≠ s.heap.objs.size := by obtain ⟨o, ho, _⟩ := ht; exact Nat.ne_of_lt (Heap.lt_size ho)
  unfold unpackItems
  refine wpAny_bind ?_
  unfold notIterableAtAll
  refine wpAny_bind (wpAny_specialOf ht.typeIs slot_tuple_iter.lookup ?_)
  refine wpAny_pure ?_
  simp only [Bool.false_eq_true, if_false]
  refine wpAny_bind (wpAny_holding (iter_tuple ht ?_))
  refine wpAny_bind (wpAny_holding (draw_tuple hlt i 0 _ _ ⟨_, Heap.get?_push_size _ rfl, rfl, rfl⟩ (ht.push _) (by omega) fun h₁ hit₁ hs₁ => ?_))
  have hl₁ : IsTup h₁ l its.toArray := (ht.push _).extBut hs₁.extBut hlt
  rw [Nat.zero_add] at hit₁
  have hit₁' := hit₁
  obtain ⟨oi, hoi, _⟩ := hit₁'
  have hl₁' := hl₁
  obtain ⟨ol, hol, _⟩ := hl₁'
  rw [List.drop_zero]
  have hfl : (its.toArray.toList.take i).length = i := by rw [List.length_take, Array.length_toList]; omega
  rw [if_neg (show ¬ ((its.toArray.toList.take i).length < i) by rw [hfl]; omega)]
  refine wpAny_bind (wpAny_holding (PySem.W.kun_collect (s := { s with heap := h₁ }) (T := "tuple_iterator") (.inr (.inr (.inr rfl))) (Walks.tuple (A := X.A.in1) hh s.heap.objs.size l hlt its.toArray) (fun j u st => st.1.typeIs) (k := i) (by omega) ⟨hit₁, hl₁⟩ (Heap.lt_size hoi) (Heap.lt_size hol) (fun h₂ tk hk => ?_) (by rw [sz]; omega)))
  have hrl : (its.toArray.toList.drop i).length = its.toArray.size - i := by rw [List.length_drop, Array.length_toList]
  have hmid : (its.toArray.toList.drop i).length - (n - 1 - i) = xs.length + 1 - n := by rw [hrl]; omega
  show wpAny _ _ (if (its.toArray.toList.drop i).length < n - 1 - i then _ else _) _ _ _
  rw [if_neg (by rw [hrl]; omega)]
  show wpAny _ _ (newList ((its.toArray.toList.drop i).take ((its.toArray.toList.drop i).length - (n - 1 - i))) >>= fun d => pure (its.toArray.toList.take i ++ [d] ++ (its.toArray.toList.drop i).drop ((its.toArray.toList.drop i).length - (n - 1 - i)))) _ _ _
  rw [hmid]
  have he : Heap.ExtBut s.heap.objs.size s.heap h₂ := fun b o hb e => hk b o hb (hs₁.extBut b o hb (Heap.get?_push_of_some _ e))
  have I1 : Inv X pins σ H { s with heap := h₂, toks := tk } := I.kept (t' := tk) fun b o e => he b o (Nat.ne_of_lt (Heap.lt_size e)) e
  refine wpAny_bind (wpAny_newList ?_ (by rw [List.length_take, hrl, sz]; omega))
  refine wpAny_pure ?_
  have hf : H h₂.objs.size = none := I1.hok.fresh (Nat.le_refl _)
  have e2 : its.toArray.toList = its := by simp
  rw [e2]
  have rm : Vals ((xs.drop i).take (xs.length + 1 - n)) ((its.drop i).take (xs.length + 1 - n)) := (rv.drop i).take _
  have I2 : Inv X pins σ (L2.upd H h₂.objs.size (.lst ((xs.drop i).take (xs.length + 1 - n)))) { s with heap := h₂.push { cls := .type "list", data := .seq ((its.drop i).take (xs.length + 1 - n)).toArray }, toks := tk } :=
    I1.laid (t' := tk) (fun b u e => Heap.get?_push_of_some _ e) (Nat.le_refl _) ⟨by rw [List.length_take, List.length_drop, sz]; omega, _, 0, rm, Heap.get?_push_size _ rfl⟩
  exact h.run pins _ σ _ _ _ Q I2 (((rv.take i).append (show Vals [V.ref h₂.objs.size] [Value.ref h₂.objs.size] from .cons rfl .nil)).append ((rv.drop i).drop _)) (hw _ hf)
end
end RB.F
/-! More words: *a, b = e; a += e. -/
namespace RB.F
open PySem PySem.Spec PyProof.Rows L2 RB
section
variable {G : Glob} {X : Cx} {W : WX} {e : Expr} {pos : Pos}
/-- the values that *a, b, .. = get -/
def starVs (n i : Nat) (ps : List P) : List P := ps.take i ++ [.lst ((ps.drop i).take (ps.length + 1 - n))] ++ (ps.drop i).drop (ps.length + 1 - n)
def asgSK (is : List Nat) (i : Nat) (r : Rho) (d : D) (S1 : Store) : R := match d with
  | .p (.tup ps) => if decide (is.length ≤ ps.length + 1) && decide (ps.length ≤ 16384) then .nx (setAll is (starVs is.length i ps) r) S1 else .bad
  | _ => .bad
def wAsgS (is : List Nat) (i : Nat) (f : FE) (r : Rho) (S : Store) : R := (f r S).st r (asgSK is i r)
theorem rs_asgS {fe : FE} {is : List Nat} {i : Nat} {es : List Expr} {k : Nat} {tp : Pos} (hK : X.K = G.K) (hc : X.calm = true) (he : RE G X W e fe) (hg : PGs X es (gNames is)) (hi : i < is.length) (hn : (assignEach es X.env).length = is.length := by rfl) (hst : (assignEach es X.env).findIdx? (·.1) = some i := by rfl)
    (hs : swapsWithSole [.Tuple es k tp] e pos.line X.env = pure false := by rfl) (hw : swappedStores [.Tuple es k tp] e X.env = pure none := by rfl) (h1 : (assignEach [.Tuple es k tp] X.env).map (·.2) = [assign (.Tuple es k tp) X.env] := by rfl) :
    RS G X W (.Assign [.Tuple es k tp] e pos) (wAsgS is i fe) := by
  refine ⟨PS.imp (ps_asg he.pe (pg_starT (pos := tp) hc hg hn hst hi) hs hw h1) fun D σ H ⟨w, S, r, ok, en, q⟩ => ?_, lfS_mon _⟩
  unfold lfS wAsgS at q
  rw [outS_st] at q
  refine tM.low (lf_mon fe) ok en q fun d S1 v w1 H1 x1 k1 rd z => ?_
  unfold asgSK at z
  split at z
  · rename_i ps
    split at z
    · rename_i hl
      simp only [Bool.and_eq_true, decide_eq_true_eq] at hl
      obtain ⟨a, vs, rfl, y, rs⟩ := rep_tup.mp rd
      have lv := rs.length
      refine ⟨a, vs, rfl, by rw [hK]; exact Same.tup k1.sub y, by omega, by omega, fun p hp => ?_⟩
      rw [lv]
      obtain ⟨k2, x2⟩ := k1.alloc (o := .lst ((vs.drop i).take (ps.length + 1 - is.length))) hp
      have rs2 := rs.mono (Same.upd (o := .lst ((vs.drop i).take (ps.length + 1 - is.length))) _ (k1.freeI hp))
      have rl : Rep G (L2.upd w1.I p (.lst ((vs.drop i).take (ps.length + 1 - is.length)))) (.ref p) (.lst ((ps.drop i).take (ps.length + 1 - is.length))) := by
        simp only [Rep]
        exact ⟨p, _, rfl, upd_same, (rs2.drop i).take _⟩
      have rall : Reps G (L2.upd w1.I p (.lst ((vs.drop i).take (ps.length + 1 - is.length)))) (vs.take i ++ [.ref p] ++ (vs.drop i).drop (ps.length + 1 - is.length)) (starVs is.length i ps) :=
        ((rs2.take i).append (Reps.cons rl Reps.nil)).append ((rs2.drop i).drop _)
      refine gNames_ok (w := ⟨L2.upd w1.I p (.lst ((vs.drop i).take (ps.length + 1 - is.length))), w1.as, w1.ts⟩) rall ?_ ((en.mono x1).mono x2) fun σ' en' _ => z σ' _ _ (x1.trans x2) k2 en'
      unfold starVs
      simp only [List.length_append, List.length_take, List.length_drop, List.length_cons, List.length_nil]
      omega
    · exact z.elim
  · exact z.elim
/-- name += e, of ints and texts -/
def dIAdd (d1 d2 : D) (S : Store) : O D := match d1, d2 with
  | .p (.int i), .p (.int j) => .ok (.p (.int (i + j))) S
  | .p (.str a), .p (.str b) => chk (decide ((a.length + b.length) ≤ sizeLine)) (.p (.str (a ++ b))) S
  | _, _ => .bad
def augK2 (i : Nat) (r : Rho) (d : D) (S : Store) : R := .nx (r.set i (some d)) S
def augK (i : Nat) (r : Rho) (d2 : D) (S1 : Store) : R := match r[i]? with
  | some (some d1) => (dIAdd d1 d2 S1).st r (augK2 i r)
  | _ => .bad
def wAug (i : Nat) (f : FE) (r : Rho) (S : Store) : R := match r[i]? with
  | some (some _) => (f r S).st r (augK i r)
  | _ => .bad
theorem rs_aug {i : Nat} {x : Str} {fe : FE} {pos' : Pos} (hN : X.N.Nodup) (hi : X.N[i]? = some x) (hx : Loc X.env.scope x) (he : RE G X W e fe) (hf : X.fn x = true ∨ X.env.scope.names.lookup x = some .local := by first | exact .inl rfl | exact .inr rfl | assumption) :
    RS G X W (.AugAssign (.Name x pos') .Add e pos) (wAug i fe) := by
  refine ⟨PS.imp (ps_aug hN hi hx he.pe (ti := fun x y H Q => rI0 (fun i j => .int (i + j)) x y H Q ∨ ∃ i j, x = .str i ∧ y = .str j ∧ i.length + j.length ≤ sizeLine ∧ Q (.str (i ++ j)) H) (fun pins s σ H x y v u Q I rx ry h => ?_) hf) fun D σ H ⟨w, S, r, ok, en, q⟩ => ?_, lfS_mon _⟩
  · rcases h with h | h
    · exact iop_add pins s σ H x y v u Q I rx ry h
    · exact iop_add_str pins s σ H x y v u Q I rx ry h
  unfold lfS wAug at q
  split at q
  · rename_i d1 hd
    obtain ⟨v1, hv1, rv1⟩ := en.at_ i d1 hd
    refine ⟨v1, hv1, ?_⟩
    rw [outS_st] at q
    refine tM.low (lf_mon fe) ok en q fun d S1 v w1 H1 x1 k1 rd z => ?_
    unfold augK at z
    rw [hd] at z
    dsimp only at z
    rw [outS_st] at z
    have rv := RepD.mono x1 rv1
    unfold dIAdd at z
    split at z
    · exact .inl ⟨_, _, rep_int.mp rv, rep_int.mp rd, z _ w1 H1 x1 k1 ((en.mono x1).set (rep_int.mpr rfl) i)⟩
    · have zz := out_chk z
      exact .inr ⟨_, _, rep_str.mp rv, rep_str.mp rd, of_decide_eq_true zz.1, zz.2 _ w1 H1 x1 k1 ((en.mono x1).set (rep_str.mpr rfl) i)⟩
    · exact z.elim
  · exact q.elim
end
end RB.F
/-! Own __eq__ under == and !=, own __len__ under len. -/
namespace RB.F
open PySem PySem.Spec PyProof.Rows L2 RB
section
variable {prog : Program} {w : World} {A : Around} {E : Value → Shared → Prop} {s : Shared} {K : PySem.W.Frag} {x C L f : Addr} {h₀ : Heap} {m : Str → Option Value} {ox : Obj} {od : Option Obj} {b : Value} {M : Model}
theorem ifBound_objNe {args : List Value} {Q : Option Value → Shared → Prop} (X : K.In s.heap) (I : PySem.W.InstAt s.heap x ox C od) (hs : PySem.W.findIn K (.ref C) "__ne__" = some (some (.builtin "object.__ne__")))
    (h : wpAny M A (call (.builtin "object.__ne__") (.ref x :: args)) (fun v => Q (some v)) E s) : wpAny M A (callSpecialIfBound? (.ref x) "__ne__" args) Q E s := by
  simp only [callSpecialIfBound?, bindSpecialIfBound?]
  refine wpAny_holding (wpAny_bind (wpAny_bind (wpAny_bind (I.type.here ((PySem.W.looks_findIn X hs).here ?_)))))
  refine wpAny_bind (wpAny_askSetting (wpAny_ite ?_))
  have fin : wpAny M A (call (.builtin "object.__ne__") ([.ref x] ++ args) >>= fun v => pure (some v)) Q E s := wpAny_bind (wpAny_mono h (fun v s' h' => wpAny_pure h') fun _ _ h' => h')
  split
  · exact wpAny_bind (wpAny_of_eq (F.cmp_object.ne.bind _) (wpAny_pure (by exact fin)))
  · exact wpAny_tryCatch (wpAny_bind (wpAny_of_eq (F.cmp_object.ne.bind _) (wpAny_pure (by exact fin))))
theorem objNe_own {Q : Fin → Shared → Prop} (hu : A.units < cLine) (X : K.In s.heap) (I : PySem.W.InstAt s.heap x ox C od) (hs : PySem.W.findIn K (.ref C) "__eq__" = some (some (.ref f))) (hf : PySem.W.isFn K (.ref f) = true)
    (h : wpAny (model prog w) A (call (.ref f) [.ref x, b]) (fun v s' => ∃ r, v = .bool r ∧ Q (.done (.ret (.bool (!r)))) s') E s) :
    wpAny (model prog w) A (Builtin.«object.__ne__» ⟨[.ref x, b], []⟩) Q E s := by
  unfold Builtin.«object.__ne__»
  repeat (first
    | with_reducible refine wpAny_cRoomFor hu ?_
    | (refine wpAny_bind (m := callSpecialIfBound? (.ref x) (Str.ofString "__eq__") [b])
        (PySem.W.ifBound_K X I hs hf (wpAny_mono h (fun r s' hr => by
          obtain ⟨b, rfl, hq⟩ := hr
          repeat (first | exact hq | exact wpAny_pure hq | exact wpAny_truthy_bool hq | (refine wpAny_bind (m := truthy (.bool _)) (wpAny_truthy_bool ?_)) | wp_step)) fun _ _ e => e)))
    | wp_step)
theorem ne_own {Q : Value → Shared → Prop} (hu : A.units + 1 < cLine) (X : K.In s.heap) (I : PySem.W.InstAt s.heap x ox C od) (hb : PySem.W.Looks (model prog w) s.heap (typeOf b) (.ref C))
    (hne : PySem.W.findIn K (.ref C) "__ne__" = some (some (.builtin "object.__ne__"))) (hm : PySem.W.mroIn K C (.type "object") = some true) (hs : PySem.W.findIn K (.ref C) "__eq__" = some (some (.ref f))) (hf : PySem.W.isFn K (.ref f) = true)
    (h : wpAny (model prog w) A.in1 (call (.ref f) [.ref x, b]) (fun v s' => ∃ r, v = .bool r ∧ Q (.bool (!r)) s') E s) :
    wpAny (model prog w) A (richCompare .NotEq (.ref x) b) Q E s := by
  have one : wpAny (model prog w) A (tryCompare (.ref x) "__ne__" b) (fun r s' => ∃ v, r = some v ∧ Q v s') E s := by
    simp only [tryCompare]
    refine wpAny_bind (ifBound_objNe X I hne (wpAny_call (codeAny_call_builtin PySem.F.cmp_object.ne.plain PySem.F.cmpEntry_ne
      (PySem.W.check_slot PySem.F.cmpKind_ne PySem.F.cmpSplit_ne (I.type.andThen (PySem.W.looks_mroIn X hm)) (PySem.F.cmpArgs_ne _ _)
        (objNe_own (A := A.in1) hu X I hs hf (wpAny_mono h (fun v s' hv => ?_) fun _ _ e => e))))))
    obtain ⟨r, rfl, hq⟩ := hv
    first | exact ⟨r, rfl, wpAny_pure ⟨_, rfl, hq⟩⟩ | exact ⟨r, rfl, ⟨_, rfl, hq⟩⟩
  unfold richCompare
  simp only [oneThing_ref]
  refine wpAny_holding (wpAny_bind (wpAny_cRoomFor (Nat.lt_of_succ_lt hu) ?_))
  rw [cmpInfo_NotEq]
  dsimp only
  refine wpAny_bind (I.type.here (wpAny_bind (hb.here ?_)))
  rw [show (Value.ref C != Value.ref C) = false from by simp]
  simp only [Bool.false_eq_true, if_false]
  refine wpAny_bind (wpAny_pure ?_)
  simp only [Bool.false_eq_true, if_false]
  refine wpAny_bind (wpAny_mono one (fun r s' z => ?_) fun _ _ e => e)
  obtain ⟨v, rfl, hq⟩ := z
  exact wpAny_pure hq
end
/-! ### own == -/
def noX {α : Type} : O α → O α
  | .ex _ _ => .bad
  | o => o
theorem out_noX {α : Type} {o : O α} {Q : α → Store → Prop} {E E' : EK} (h : out (noX o) Q E) : out o Q E' := by
  cases o <;> first | exact h | exact h.elim
def eqOK (neg : Bool) (d : D) (S : Store) : O D := match d with
  | .p (.bl b) => .ok (.p (.bl (if neg then !b else b))) S
  | _ => .bad
/-- == (!=) of two objects of the class c, by its own __eq__ -/
def dEqO (neg : Bool) (c : String) (mf : FD) (d1 d2 : D) (S : Store) : O D := match objOf S d1, objOf S d2 with
  | some (c1, _, _), some (c2, _, _) => if c1 = c ∧ c2 = c then noX ((mf [d1, d2] S).bind (eqOK neg)) else .bad
  | _, _ => .bad
section
variable {G : Glob} {X : Cx} {W : WX} {n k : Nat}
/-- a call below the running body -/
theorem run_gA {A : Around} {f : Addr} {fd : FuncData} {ps : List Str} {sp : DSp} (C : CxG G X W n) (F : FnG G X.prog X.w X.mg X.base k f fd ps sp) (hr : Room k A) (hg : A.guards = some []) (hf : A.frames = X.A.frames) {pins : List (Addr × Obj)} {σ : L2.St} {H : Hp} {s : Shared} {Q : VK} {args : Args} {us : List Value} {vs : List V} (I : Inv X pins σ H s) (hb : BindsTo s fd args (ps.zip us)) (r : Vals vs us)
    (h : spV G sp vs H Q fun c d H' => W c d σ H') : wpAny (model X.prog X.w) A (call (.ref f) args.pos args.kw) (EP X pins σ Q) X.xe s := by
  have e := I.env0
  rw [C.hK] at e
  have e0 : Env0 X.prog X.w G.K X.mg X.base A X.stack s H := ⟨by rw [hf]; exact e.frames, e.mod, e.bs, e.bsz, e.funs, e.frf, e.hok, e.bare⟩
  refine wpAny_call (codeAny_mono (F.run A X.stack s H args us vs Q _ hr hg e0 hb r h) fun z s' hq => ?_)
  cases z with
  | error e => exact passAt C.tk σ pins H s e s' I hq
  | ok fl =>
    cases fl with
    | ret u => exact I.after hq
    | next => exact False.elim hq
    | brk => exact False.elim hq
    | cont => exact False.elim hq
/-- what a row knows of a class with an own == -/
structure EqC (G : Glob) (X : Cx) (n : Nat) (c : String) (mf : FD) : Prop where
  isE : G.isE c = false
  run : ∃ (C g : Addr) (fd : FuncData) (ps : List Str) (k : Nat), G.cls c = some C ∧ Meth X.K C "__eq__" g ∧ FnG G X.prog X.w X.mg X.base k g fd ps (spF mf) ∧ k + 1 ≤ n ∧ Binds X.K fd ps [] ∧
    PySem.W.findIn X.K (.ref C) "__ne__" = some (some (.builtin "object.__ne__")) ∧ PySem.W.mroIn X.K C (.type "object") = some true
theorem ol_neO {c : String} {mf : FD} (C : CxG G X W n) (hc : EqC G X n c mf) : OpL G X (compareOp .NotEq) (dEqO true c mf) := by
  refine ⟨fun d1 d2 S Q => ∀ E, out (dEqO true c mf d1 d2 S) Q E, ⟨fun pins s σ H x y v u Q I rx ry ⟨w, S, d1, d2, ok, r1, r2, q⟩ => ?_, fun d1 d2 S Q Q' hq h E => out_mono (h E) hq fun _ _ z => z⟩, fun d1 d2 S Q E h E' => ?_⟩
  · replace q := q fun _ _ => False
    unfold dEqO at q
    split at q
    · rename_i c1 n1 v1 c2 n2 v2 o1 o2
      split at q
      · rename_i hcc
        obtain ⟨rfl, h2⟩ := hcc
        subst h2
        obtain ⟨C1, g, fd, ps, k, g1, g2, g3, g4, g5, g6, g7⟩ := hc.run
        obtain ⟨a, C2, fs, e1, e2, e3, _, _⟩ := objOf_at ok r1 o1
        obtain ⟨b, C3, gs, e4, e5, e6, _, _⟩ := objOf_at ok r2 o2
        subst e1; subst e4
        rw [g1] at e2 e5
        cases e2; cases e5
        cases rx; cases ry
        rcases e3 with ⟨_, dx, e3⟩ | ⟨e0, _⟩
        · rcases e6 with ⟨_, dy, e6⟩ | ⟨e0, _⟩
          · obtain ⟨mA, J, _⟩ := ins_get I.hok e3
            obtain ⟨mB, J', _⟩ := ins_get I.hok e6
            obtain ⟨od, J, _⟩ := J.look
            obtain ⟨od', J', _⟩ := J'.look
            show wpAny (model X.prog X.w) X.A (richCompare .NotEq (.ref a) (.ref b)) (EP X pins σ Q) X.xe s
            refine ne_own C.h1 I.kIn J J'.type g6 g7 g2.at_ g2.fn ?_
            have r2' : Vals [V.ref a, V.ref b] [Value.ref a, Value.ref b] := .cons rfl (.cons rfl .nil)
            have q2 := out_noX (E' := Qx G w H fun c d H' => W c d σ H') q
            rw [out_bind] at q2
            have sv : spV G (spF mf) [.ref a, .ref b] H (fun v H' => ∃ r, v = .bl r ∧ Q (.bl (!r)) H') fun c d H' => W c d σ H' := ⟨w, S, [d1, d2], ok, ⟨r1, r2, trivial⟩, out_mono q2 (fun d S1 z v w' H' x1 k1 rd => by
              unfold eqOK at z
              split at z
              · rename_i b
                exact ⟨b, rep_bl.mp rd, z (.bl (!b)) w' H' x1 k1 (rep_bl.mpr rfl)⟩
              · exact z.elim) fun _ _ z => z⟩
            have hl : [Value.ref a, Value.ref b].length = ps.length := by
              obtain ⟨w3, S3, es3, _, rd3, q3⟩ := id sv
              rw [← r2'.length, rd3.length]
              exact g3.len _ _ _ _ q3
            refine wpAny_mono (run_gA (args := ⟨[.ref a, .ref b], []⟩) C g3 ((C.rm.mono g4).in1) C.gd rfl I (by
              have := g5 s [.ref a, .ref b] I.kIn (by simpa using hl)
              simpa using this) r2' sv) (fun u s' ⟨v, H', I', rv, r, e, z⟩ => ?_) fun _ _ z => z
            subst e
            cases rv
            exact ⟨r, rfl, .bl (!r), H', I', rfl, z⟩
          · rw [hc.isE] at e0; cases e0
        · rw [hc.isE] at e0; cases e0
      · exact q.elim
    · exact q.elim
  · unfold dEqO at h ⊢
    split at h
    · split at h
      · rename_i hcc
        rw [if_pos hcc]
        revert h
        generalize (mf [d1, d2] S).bind (eqOK true) = o
        intro h
        cases o <;> first | exact h | exact h.elim
      · exact h.elim
    · exact h.elim
theorem ol_eqO {c : String} {mf : FD} (C : CxG G X W n) (hc : EqC G X n c mf) : OpL G X (compareOp .Eq) (dEqO false c mf) := by
  refine ⟨fun d1 d2 S Q => ∀ E, out (dEqO false c mf d1 d2 S) Q E, ⟨fun pins s σ H x y v u Q I rx ry ⟨w, S, d1, d2, ok, r1, r2, q⟩ => ?_, fun d1 d2 S Q Q' hq h E => out_mono (h E) hq fun _ _ z => z⟩, fun d1 d2 S Q E h E' => ?_⟩
  · replace q := q fun _ _ => False
    unfold dEqO at q
    split at q
    · rename_i c1 n1 v1 c2 n2 v2 o1 o2
      split at q
      · rename_i hcc
        obtain ⟨rfl, h2⟩ := hcc
        subst h2
        obtain ⟨C1, g, fd, ps, k, g1, g2, g3, g4, g5, g6, g7⟩ := hc.run
        obtain ⟨a, C2, fs, e1, e2, e3, _, _⟩ := objOf_at ok r1 o1
        obtain ⟨b, C3, gs, e4, e5, e6, _, _⟩ := objOf_at ok r2 o2
        subst e1; subst e4
        rw [g1] at e2 e5
        cases e2; cases e5
        cases rx; cases ry
        rcases e3 with ⟨_, dx, e3⟩ | ⟨e0, _⟩
        · rcases e6 with ⟨_, dy, e6⟩ | ⟨e0, _⟩
          · obtain ⟨mA, J, _⟩ := ins_get I.hok e3
            obtain ⟨mB, J', _⟩ := ins_get I.hok e6
            obtain ⟨od, J, _⟩ := J.look
            obtain ⟨od', J', _⟩ := J'.look
            show wpAny (model X.prog X.w) X.A (richCompare .Eq (.ref a) (.ref b)) (EP X pins σ Q) X.xe s
            obtain ⟨mm, hF⟩ := I.fr
            refine PySem.W.cmp_K (op := .Eq) (tb := .ref C1) C.rm.units0 hF I.ok.mod.kin J J'.type (by simp [PySem.W.notFirst]) g2.at_ g2.fn ?_
            have r2' : Vals [V.ref a, V.ref b] [Value.ref a, Value.ref b] := .cons rfl (.cons rfl .nil)
            have q2 := out_noX (E' := Qx G w H fun c d H' => W c d σ H') q
            rw [out_bind] at q2
            have sv : spV G (spF mf) [.ref a, .ref b] H (fun v H' => ∃ r, v = .bl r ∧ Q (.bl r) H') fun c d H' => W c d σ H' := ⟨w, S, [d1, d2], ok, ⟨r1, r2, trivial⟩, out_mono q2 (fun d S1 z v w' H' x1 k1 rd => by
              unfold eqOK at z
              split at z
              · rename_i b
                exact ⟨b, rep_bl.mp rd, z (.bl b) w' H' x1 k1 (rep_bl.mpr rfl)⟩
              · exact z.elim) fun _ _ z => z⟩
            have hl : [Value.ref a, Value.ref b].length = ps.length := by
              obtain ⟨w3, S3, es3, _, rd3, q3⟩ := id sv
              rw [← r2'.length, rd3.length]
              exact g3.len _ _ _ _ q3
            refine wpAny_mono (run_gA (args := ⟨[.ref a, .ref b], []⟩) C g3 (C.rm.mono (Nat.le_of_succ_le g4)) C.gd rfl I (by
              have := g5 s [.ref a, .ref b] I.kIn (by simpa using hl)
              simpa using this) r2' sv) (fun u s' ⟨v, H', I', rv, r, e, z⟩ => ?_) fun _ _ z => z
            subst e
            cases rv
            exact ⟨.bl r, H', I', rfl, z⟩
          · rw [hc.isE] at e0; cases e0
        · rw [hc.isE] at e0; cases e0
      · exact q.elim
    · exact q.elim
  · unfold dEqO at h ⊢
    split at h
    · split at h
      · rename_i hcc
        rw [if_pos hcc]
        revert h
        generalize (mf [d1, d2] S).bind (eqOK false) = o
        intro h
        cases o <;> first | exact h | exact h.elim
      · exact h.elim
    · exact h.elim
theorem eqC_mk {c : String} {mf : FD} {Cc f : Addr} {fd : FuncData} {ps : List Str} (C : CxG G X W n) (hc : G.cls c = some Cc) (hi : G.isE c = false) (me : Meth G.K Cc "__eq__" f) (hne : PySem.W.findIn G.K (.ref Cc) "__ne__" = some (some (.builtin "object.__ne__"))) (hm : PySem.W.mroIn G.K Cc (.type "object") = some true) (F : FnG G X.prog X.w X.mg X.base k f fd ps (spF mf)) (hk : k + 1 ≤ n) (hb : Binds G.K fd ps []) : EqC G X n c mf := by
  have e := C.hK
  exact ⟨hi, Cc, f, fd, ps, k, hc, by rw [e]; exact me, F, hk, by rw [e]; exact hb, by rw [e]; exact hne, by rw [e]; exact hm⟩
/-- a check: != is object's own -/
def neB (K : PySem.W.Frag) (C : Addr) : Bool := (match PySem.W.findIn K (.ref C) "__ne__" with | some (some (.builtin id)) => id == "object.__ne__" | _ => false) && (match PySem.W.mroIn K C (.type "object") with | some b => b | none => false)
theorem neB_ok {K : PySem.W.Frag} {C : Addr} (h : neB K C = true) : PySem.W.findIn K (.ref C) "__ne__" = some (some (.builtin "object.__ne__")) ∧ PySem.W.mroIn K C (.type "object") = some true := by
  unfold neB at h
  obtain ⟨h1, h2⟩ := Bool.and_eq_true_iff.mp h
  refine ⟨?_, ?_⟩
  · split at h1
    · rename_i e
      rw [e, beq_iff_eq.mp h1]
    · cases h1
  · split at h2
    · rename_i e
      rw [e, h2]
    · cases h2
/-! ### own len -/
def lenOK (d : D) (S : Store) : O D := match d with
  | .p (.int i) => if 0 ≤ i ∧ i < 2 ^ 63 then .ok (.p (.int i)) S else .bad
  | _ => .bad
/-- len of an object of the class c, by its own __len__ -/
def dLenO (c : String) (mf : FD) (d : D) (S : Store) : O D := match objOf S d with
  | some (c1, _, _) => if c1 = c then noX ((mf [d] S).bind lenOK) else .bad
  | none => .bad
/-- what a row knows of a class's own special method -/
structure SpC (G : Glob) (X : Cx) (n : Nat) (m : Str) (c : String) (mf : FD) : Prop where
  isE : G.isE c = false
  run : ∃ (C g : Addr) (fd : FuncData) (ps : List Str) (k : Nat), G.cls c = some C ∧ Meth X.K C m g ∧ FnG G X.prog X.w X.mg X.base k g fd ps (spF mf) ∧ k + 1 ≤ n ∧ Binds X.K fd ps []
theorem spC_mk {m : Str} {c : String} {mf : FD} {Cc f : Addr} {fd : FuncData} {ps : List Str} (C : CxG G X W n) (hc : G.cls c = some Cc) (hi : G.isE c = false) (me : Meth G.K Cc m f) (F : FnG G X.prog X.w X.mg X.base k f fd ps (spF mf)) (hk : k + 1 ≤ n) (hb : Binds G.K fd ps []) : SpC G X n m c mf := by
  have e := C.hK
  exact ⟨hi, Cc, f, fd, ps, k, hc, by rw [e]; exact me, F, hk, by rw [e]; exact hb⟩
theorem noX_any {α : Type} {o : O α} {Q : α → Store → Prop} {E E' : EK} (h : out (noX o) Q E) : out (noX o) Q E' := by
  cases o <;> first | exact h | exact h.elim
theorem cl_lenO {c : String} {mf : FD} (C : CxG G X W n) (hc : SpC G X n "__len__" c mf) : CallL G X (.builtin "len") (b1 (dLenO c mf)) := by
  refine ⟨fun ds S Q => ∀ E, out (b1 (dLenO c mf) ds S) Q E, ⟨fun pins s σ H xs us Q I rx ⟨w, S, ds, ok, r1, q⟩ => ?_, fun ds S Q Q' hq h E => out_mono (h E) hq fun _ _ z => z⟩, fun ds S Q E h E' => ?_⟩
  · replace q := q fun _ _ => False
    unfold b1 at q
    split at q
    · rename_i d
      unfold dLenO at q
      split at q
      · rename_i c1 n1 v1 o1
        split at q
        · rename_i hcc
          subst hcc
          obtain ⟨x, rfl, r3⟩ := reps1 r1
          obtain ⟨C1, g, fd, ps, k, g1, g2, g3, g4, g5⟩ := hc.run
          obtain ⟨a, C2, fs, e1, e2, e3, _, _⟩ := objOf_at ok r3 o1
          subst e1
          rw [g1] at e2
          cases e2
          rcases e3 with ⟨_, dx, e3⟩ | ⟨e0, _⟩
          · cases rx with
            | cons hx t =>
            cases t
            cases hx
            obtain ⟨mA, J, _⟩ := ins_get I.hok e3
            obtain ⟨od, J, _⟩ := J.look
            obtain ⟨mm, hF⟩ := I.fr
            refine PySem.W.len_K hF I.ok.mod.kin J g2.at_ g2.fn ?_
            have r2' : Vals [V.ref a] [Value.ref a] := .cons rfl .nil
            have q2 := out_noX (E' := Qx G w H fun c d H' => W c d σ H') q
            rw [out_bind] at q2
            have sv : spV G (spF mf) [.ref a] H (fun v H' => ∃ i : Int, v = .int i ∧ (0 ≤ i ∧ i < 2 ^ 63) ∧ Q (.int i) H') fun c d H' => W c d σ H' := ⟨w, S, [d], ok, ⟨r3, trivial⟩, out_mono q2 (fun d S1 z v w' H' x1 k1 rd => by
              unfold lenOK at z
              split at z
              · rename_i i
                split at z
                · rename_i hi
                  exact ⟨i, rep_int.mp rd, hi, z (.int i) w' H' x1 k1 (rep_int.mpr rfl)⟩
                · exact z.elim
              · exact z.elim) fun _ _ z => z⟩
            have hl : [Value.ref a].length = ps.length := by
              obtain ⟨w3, S3, es3, _, rd3, q3⟩ := id sv
              rw [← r2'.length, rd3.length]
              exact g3.len _ _ _ _ q3
            refine wpAny_mono (run_gA (args := ⟨[.ref a], []⟩) C g3 ((C.rm.mono g4).in1) C.gd rfl I (by
              have := g5 s [.ref a] I.kIn (by simpa using hl)
              simpa using this) r2' sv) (fun u s' ⟨v, H', I', rv, r, e, hi, z⟩ => ?_) fun _ _ z => z
            subst e
            obtain ⟨t, rfl⟩ := rv
            exact ⟨hi, .int r, H', I'.tok _, ⟨_, rfl⟩, z⟩
          · rw [hc.isE] at e0; cases e0
        · exact q.elim
      · exact q.elim
    · exact q.elim
  · unfold b1 at h ⊢
    split at h
    · unfold dLenO at h ⊢
      split at h
      · split at h
        · rename_i hcc
          rw [if_pos hcc]
          exact noX_any h
        · exact h.elim
      · exact h.elim
    · exact h.elim
/-! ### isinstance by checks -/
def iscB (K : PySem.W.Frag) (C : Addr) : Bool := (PySem.W.clsIn K C).isSome && ((match PySem.W.findIn K (.ref C) "__getattr__" with | some none => true | _ => false) && ((match PySem.W.findIn K (.ref C) "__class__" with | some (some (.builtin id)) => id == "object.__class__" | _ => false) &&
  ((match PySem.W.specialIn K (.builtin "object.__class__") "__get__" with | some (some (.builtin id)) => id == "getset_descriptor.__get__" | _ => false) && ((match PySem.W.takesIn K (.builtin "object.__class__") with | some b => b | none => false) && (match PySem.W.mroIn K C (.type "object") with | some b => b | none => false)))))
theorem iscB_ok {K : PySem.W.Frag} {C : Addr} (h : iscB K C = true) : IsC K C := by
  unfold iscB at h
  obtain ⟨h1, h⟩ := Bool.and_eq_true_iff.mp h
  obtain ⟨h2, h⟩ := Bool.and_eq_true_iff.mp h
  obtain ⟨h3, h⟩ := Bool.and_eq_true_iff.mp h
  obtain ⟨h4, h⟩ := Bool.and_eq_true_iff.mp h
  obtain ⟨h5, h6⟩ := Bool.and_eq_true_iff.mp h
  refine ⟨h1, ?_, ?_, ?_, ?_, ?_⟩
  · split at h2
    · assumption
    · cases h2
  · split at h3
    · rename_i e
      rw [e, beq_iff_eq.mp h3]
    · cases h3
  · split at h4
    · rename_i e
      rw [e, beq_iff_eq.mp h4]
    · cases h4
  · split at h5
    · rename_i e
      rw [e, h5]
    · cases h5
  · split at h6
    · rename_i e
      rw [e, h6]
    · cases h6
def kitB (K : PySem.W.Frag) (v u : Value) (b : Bool) : Bool := match PySem.W.kitOne K v u with
  | some r => r == b
  | none => false
theorem kitB_ok {K : PySem.W.Frag} {v u : Value} {b : Bool} (h : kitB K v u b = true) : PySem.W.kitOne K v u = some b := by
  unfold kitB at h
  split at h
  · rename_i e
    rw [e, beq_iff_eq.mp h]
  · cases h
def bltB (K : PySem.W.Frag) (u : Value) (t : String → Bool) : Bool := ["NoneType", "bool", "int", "str", "tuple", "list", "dict"].all fun c => kitB K (.type c) u (t c)
theorem isT_mk {K : PySem.W.Frag} {ts : List String} {u : Value} {t : String → Bool} (hown : ∀ c ∈ ts, ∀ C, G.cls c = some C → iscB K C = true ∧ G.isE c = false ∧ Cls K C ∧ kitB K (.ref C) u (t c) = true) (hb : bltB K u t = true) : IsT G K ts u t := by
  refine ⟨fun c m C h => ?_, fun c _ m => ?_⟩
  · obtain ⟨h1, h2, h3, h4⟩ := hown c m C h
    exact ⟨iscB_ok h1, fun e => by rw [h2] at e; (cases e), fun _ => h3, kitB_ok h4⟩
  · exact kitB_ok (List.all_eq_true.mp hb c m)
end
end RB.F
/-! Running the functions: words that open only over data whose kind is seen. -/
namespace RB.F
open PySem PySem.Spec PyProof.Rows L2 RB
section
variable {S : Store} {i j : Int} {z z' : Str} {ds es : List P} {n : Nat} {lo hi : Option Int} {c : String} {ns : List Str} {ks : List Key} {b : Bool} {t : String} {d : D}
def ixO (o : Option P) (S : Store) : O D := match o with
  | some d => .ok (.p d) S
  | none => .bad
theorem ixO_s {v : P} : ixO (some v) S = .ok (.p v) S := (rfl)
def ixC (o : Option Nat) (z : Str) (S : Store) : O D := match o with
  | some c => chk (decide (z.length ≤ sizeLine)) (.p (.str ⟨#[c]⟩)) S
  | none => .bad
theorem ixC_s {c : Nat} : ixC (some c) z S = chk (decide (z.length ≤ sizeLine)) (.p (.str ⟨#[c]⟩)) S := (rfl)
def ixL (o : Option (List P)) (i : Int) (S : Store) : O D := match o with
  | some ds => ixO (atI ds i) S
  | none => .bad
theorem ixL_s : ixL (some ds) i S = ixO (atI ds i) S := (rfl)
theorem dIx_s : dIx (.p (.str z)) (.p (.int i)) S = ixC (atI z.cps.toList i) z S := (rfl)
theorem dIx_t : dIx (.p (.tup ds)) (.p (.int i)) S = ixO (atI ds i) S := (rfl)
theorem dIx_l : dIx (.p (.lst ds)) (.p (.int i)) S = ixO (atI ds i) S := (rfl)
theorem dIx_r : dIx (.p (.scr ds)) (.p (.int i)) S = ixO (atI ds i) S := (rfl)
theorem dIx_c : dIx (.cell n) (.p (.int i)) S = ixL (asL S (.cell n)) i S := (rfl)
theorem asL_l : asL S (.p (.lst ds)) = some ds := (rfl)
theorem asL_r : asL S (.p (.scr ds)) = some ds := (rfl)
def cellL (o : Option Cell) : Option (List P) := match o with
  | some (.lst ds) => some ds
  | _ => none
theorem cellL_s : cellL (some (.lst ds)) = some ds := (rfl)
theorem asL_c : asL S (.cell n) = cellL S[n]? := (rfl)
theorem asL_t : asL S (.p (.tup ds)) = none := (rfl)
theorem asL_z : asL S (.p (.str z)) = none := (rfl)
theorem asL_n : asL S (.p .non) = none := (rfl)
theorem asL_i : asL S (.p (.int i)) = none := (rfl)
theorem asL_b : asL S (.p (.bl b)) = none := (rfl)
theorem asL_d {vs : List P} : asL S (.p (.dK ks vs)) = none := (rfl)
theorem asM_l : asM S (.p (.lst ds)) = some ds := (rfl)
theorem asM_c : asM S (.cell n) = cellL S[n]? := (rfl)
theorem asQ_t : asQ S (.p (.tup ds)) = some ds := (rfl)
theorem asQ_l : asQ S (.p (.lst ds)) = some ds := (rfl)
theorem asQ_r : asQ S (.p (.scr ds)) = some ds := (rfl)
theorem asQ_c : asQ S (.cell n) = cellL S[n]? := (rfl)
def lenL (o : Option (List P)) (S : Store) : O D := match o with
  | some ds => .ok (.p (.int ds.length)) S
  | none => .bad
theorem lenL_s : lenL (some ds) S = .ok (.p (.int ds.length)) S := (rfl)
theorem dLen_s : dLen (.p (.str z)) S = chk (decide (z.length ≤ sizeLine)) (.p (.int z.length)) S := (rfl)
theorem dLen_t : dLen (.p (.tup ds)) S = .ok (.p (.int ds.length)) S := (rfl)
theorem dLen_l : dLen (.p (.lst ds)) S = .ok (.p (.int ds.length)) S := (rfl)
theorem dLen_r : dLen (.p (.scr ds)) S = .ok (.p (.int ds.length)) S := (rfl)
theorem dLen_c : dLen (.cell n) S = lenL (cellL S[n]?) S := (rfl)
def slL (o : Option (List P)) (lo hi : Option Int) (S : Store) : O D := match o with
  | some ds => .ok (.p (.lst (cutP ds lo hi))) S
  | none => .bad
theorem slL_s : slL (some ds) lo hi S = .ok (.p (.lst (cutP ds lo hi))) S := (rfl)
theorem dSl_s : dSl (.p (.str z)) lo hi S = chk (decide (z.length ≤ sizeLine)) (.p (.str (cutS z lo hi))) S := (rfl)
theorem dSl_t : dSl (.p (.tup ds)) lo hi S = .ok (.p (.tup (cutP ds lo hi))) S := (rfl)
theorem dSl_l : dSl (.p (.lst ds)) lo hi S = .ok (.p (.lst (cutP ds lo hi))) S := (rfl)
theorem dSl_r : dSl (.p (.scr ds)) lo hi S = .ok (.p (.lst (cutP ds lo hi))) S := (rfl)
theorem dSl_c : dSl (.cell n) lo hi S = slL (cellL S[n]?) lo hi S := (rfl)
theorem dAdd_i : dAdd (.p (.int i)) (.p (.int j)) S = .ok (.p (.int (i + j))) S := (rfl)
theorem dAdd_s : dAdd (.p (.str z)) (.p (.str z')) S = chk (decide ((z.length + z'.length) ≤ sizeLine)) (.p (.str (z ++ z'))) S := (rfl)
theorem dAdd_t : dAdd (.p (.tup ds)) (.p (.tup es)) S = chk (decide ((ds.length + es.length) ≤ sizeLine)) (.p (.tup (ds ++ es))) S := (rfl)
theorem dAdd_l : dAdd (.p (.lst ds)) (.p (.lst es)) S = chk (decide ((ds.length + es.length) ≤ sizeLine)) (.p (.lst (ds ++ es))) S := (rfl)
def addL (o o' : Option (List P)) (S : Store) : O D := match o, o' with
  | some a, some b => chk (decide ((a.length + b.length) ≤ sizeLine)) (.p (.lst (a ++ b))) S
  | _, _ => .bad
theorem addL_s : addL (some ds) (some es) S = chk (decide ((ds.length + es.length) ≤ sizeLine)) (.p (.lst (ds ++ es))) S := (rfl)
theorem dAdd_cl : dAdd (.cell n) (.p (.lst es)) S = addL (cellL S[n]?) (some es) S := (rfl)
theorem dAdd_lc : dAdd (.p (.lst ds)) (.cell n) S = addL (some ds) (cellL S[n]?) S := (rfl)
def joinO (a : Str) (o : Option (List P)) (S : Store) : O D := match o with
  | some ds => (match strsP ds with
    | some ys => chk (decide (((ys.map (·.length)).sum + ys.length * a.length) ≤ 16777216)) (.p (.str (Txt.join a ys))) S
    | none => .bad)
  | none => .bad
theorem joinO_s : joinO z (some ds) S = match strsP ds with
    | some ys => chk (decide (((ys.map (·.length)).sum + ys.length * z.length) ≤ 16777216)) (.p (.str (Txt.join z ys))) S
    | none => .bad := (rfl)
theorem dJoin_e : dJoin (.p (.str z)) d S = joinO z (asQ S d) S := by
  unfold dJoin joinO
  cases asQ S d <;> rfl
theorem b1_1 {p : D → Store → O D} {d : D} : b1 p [d] S = p d S := (rfl)
theorem b2_2 {p : P2} {d d' : D} : b2 p [d, d'] S = p d d' S := (rfl)
theorem methK2_e {mf : FD} {gD : List D → List D} {d : D} {ds : List D} : methK2 mf gD d ds S = mf (gD (d :: ds)) S := (rfl)
theorem callKK_e {m : FD} {gg : List D → List D} {zs : List D} : callKK m gg zs S = m (gg zs) S := (rfl)
theorem slK2_e : slK2 d lo hi S = dSl d lo hi S := (rfl)
theorem joinK2_e : joinK2 z d S = dJoin (.p (.str z)) d S := (rfl)
def itL (o : Option (List P)) : Option (List D) := o.map fun ds => ds.map D.p
end
end RB.F
/-! More words: constants of a class, ranges that go down, xs.insert(i, y), methods without arguments. -/
namespace RB.F
open PySem PySem.Spec PyProof.Rows L2 RB
section
variable {G : Glob} {X : Cx} {W : WX} {e a b c o : Expr} {f : Str} {pos apos : Pos} {fe : FE}
/-! ### o.NAME, a constant of the class -/
def conB (K : PySem.W.Frag) (C : Addr) (f : Str) (i : Int) : Bool := (match PySem.W.findIn K (.ref C) f with
  | some (some (.int j t)) => decide (j = i) && (match PySem.W.specialIn K (.int j t) "__get__" with | some none => true | _ => false)
  | _ => false) && !PySem.W.copiedNames.contains f
theorem conB_ok {K : PySem.W.Frag} {C : Addr} {f : Str} {i : Int} (h : conB K C f i = true) : ∃ u, Con K C f (.int i) u := by
  unfold conB at h
  obtain ⟨h1, h2⟩ := Bool.and_eq_true_iff.mp h
  split at h1
  · rename_i j t e
    obtain ⟨h3, h4⟩ := Bool.and_eq_true_iff.mp h1
    have h3 := of_decide_eq_true h3
    subst h3
    split at h4
    · rename_i e2
      exact ⟨_, e, ⟨t, rfl⟩, e2, by simpa using h2⟩
    · cases h4
  · cases h1
def dCon (cs : List String) (f : Str) (i : Int) (d : D) (S : Store) : O D := match objOf S d with
  | some (c, ns, _) => if cs.contains c && !ns.contains f then .ok (.p (.int i)) S else .bad
  | none => .bad
theorem lookup_none {f : Str} {α : Type} : ∀ {fs : List (Str × α)}, f ∉ fs.map (·.1) → fs.lookup f = none
  | [], _ => rfl
  | (k, v) :: fs, h => by
    simp only [List.map_cons, List.mem_cons, not_or] at h
    rw [List.lookup_cons]
    have : (f == k) = false := by simpa using h.1
    rw [this]
    exact lookup_none h.2
theorem re_con {cs : List String} {i : Int} (hK : X.K = G.K) (hc : ∀ c ∈ cs, ∀ C, G.cls c = some C → Cls G.K C ∧ G.isE c = false ∧ conB G.K C f i = true) (he : RE G X W e fe) (hb : attributeBase e f X.env (eval e X.env) = eval e X.env := by rfl) :
    RE G X W (.Attribute e f pos) (wUn (dCon cs f i) fe) := by
  refine ⟨PE.imp (pe_con he.pe hb) fun σ H Q ⟨w, S, ρ, ok, en, q⟩ => ?_, lf_mon _⟩
  unfold lf wUn at q
  rw [out_bind] at q
  refine tM.bind (lf_mon fe) ok en q (fun _ _ _ z => z) fun d S' v w' H' x k r1 q => ?_
  unfold dCon at q
  split at q
  · rename_i cn ns vs o1
    split at q
    · rename_i hh
      obtain ⟨h1, h2⟩ := Bool.and_eq_true_iff.mp hh
      obtain ⟨a, C, fs, e1, e2, e3, e4, e5⟩ := objOf_at k r1 o1
      subst e1
      obtain ⟨c1, c2, c3⟩ := hc cn (List.contains_iff_mem.mp h1) C e2
      obtain ⟨u, cu⟩ := conB_ok c3
      rcases e3 with ⟨_, dx, e3⟩ | ⟨e0, _⟩
      · refine ⟨a, C, dx, fs, .int i, u, rfl, e3, by rw [hK]; exact c1, by rw [hK]; exact cu, lookup_none ?_, q _ w' H' x k (rep_int.mpr rfl)⟩
        rw [e4]
        intro z
        rw [List.contains_iff_mem.mpr z] at h2
        cases h2
      · rw [c2] at e0; cases e0
    · exact q.elim
  · exact q.elim
/-! ### range(a, b, -1) -/
/-- hi, hi - 1, .. -/
def rngN (hi : Int) (n : Nat) : List D := (List.range n).map fun (i : Nat) => D.p (.int (hi + (i : Int) * (-1)))
theorem iter_rangeN {w : Wd} {hi : Int} {n : Nat} : IterOf G w (Itc hi (-1) n) (rngN hi n) := by
  have W1 := walk_rangeC (lo := hi) (c := -1) (n := n)
  unfold IterOf
  rw [show (rngN hi n).length = n by simp [rngN]]
  refine W1.mono (fun H2 h2 => trivial) fun i H2 y H3 hi2 _ hy => ?_
  exact ⟨.p (.int (hi + (i : Int) * (-1))), by simp [rngN, hi2], .inl ⟨hy.1, fun w2 s2 => rep_int.mpr hy.2⟩⟩
theorem RI.of' {tg iter : Expr} {t : TI} {f : FA} (h : PI X tg iter t) (i : ∀ σ H R, tMi G W (lf f) σ H R → t σ H R) : RI G X W tg iter f := ⟨PI.imp h i, lf_mon f⟩
/-! ### ranges of numbers of any size -/
theorem turn_long {P : Program} {w : World} {K : PySem.W.Frag} {tg : Expr} (it : Addr) (lo c : Int) (n : Nat) : Turn P w K tg (Itc lo c n) [it] it (fun i h => IsLongIter h it (lo + (i : Nat) * c) ((n : Int) - (i : Nat)) c) where
  mem := by simp
  obj := fun i h st b hb => by
    have e : b = it := by simpa using hb
    subst e
    exact ⟨_, st, fun v z => nomatch z⟩
  keep := fun i h h' st k => k it (by simp) _ st
  item := by
    intro X hP hw hK hc i pins s σ H E I hf st hg
    subst hP hw hK
    obtain ⟨f0, f1, f2, f3, f4, f5⟩ := hf it (by simp)
    have W := Walks.longrange (prog := X.prog) (w := X.w) (I.ok.hd hc) it lo c n
    refine W.item i s _ _ hg st fun v h' tk hv st' kk => ?_
    obtain ⟨t, rfl⟩ := hv
    have I1 : Inv X pins σ H { s with heap := h', toks := tk } := I.turned (fun b o hb e => kk b o (by simpa using hb) e) f0 f1 f3 f4 f5
    exact ⟨_, rfl, go_of (s := { s with heap := h', toks := tk }) (n := "longrange_iterator") st' rfl rfl (by decide) ⟨.int (lo + (i : Nat) * c), H, I1, ⟨t, rfl⟩, ⟨rfl, rfl⟩, st', fun b hb => (hf b hb).1⟩⟩
  done := by
    intro X hP hw hK hc i pins s σ H E I hf st hg
    subst hP hw hK
    obtain ⟨f0, f1, f2, f3, f4, f5⟩ := hf it (by simp)
    exact wpAny_pyNext_long_end (I.ok.hd hc) st (by have : n ≤ i := hg; omega) fun h' eb => ⟨rfl, I.turned (t' := s.toks) (fun b o hb e => eb b o hb e) f0 f1 f3 f4 f5⟩
  self := fun A i s Q E st h => wpAny_pyIter_longiter st h
theorem iter_any {tg : Expr} {pins : List (Addr × Obj)} {σ : L2.St} {H : Hp} {s : Shared} {R : It → Hp → Prop} {i j c : Int} {n : Nat} {t u v : Tok} {tk : Nat} (I : Inv X pins σ H s) (hn : Builtin.Range.rangeSize i j c = n) (q : R (Itc i c n) H) :
    wpAny (model X.prog X.w) X.A (pyIter (.ref s.heap.objs.size)) (PIE X pins σ tg R) X.xe { s with heap := s.heap.push { cls := .type "range", data := .fields #[.int i t, .int j u, .int c v] }, toks := tk } := by
  have I2 : Inv X pins σ H { s with heap := s.heap.push { cls := .type "range", data := .fields #[.int i t, .int j u, .int c v] }, toks := tk } := I.kept fun b o e => Heap.get?_push_of_some _ e
  have e1 : i + ((0 : Nat) : Int) * c = i := by simp
  have e2 : (n : Int) - ((0 : Nat) : Int) = Builtin.Range.rangeSize i j c := by rw [hn]; simp
  cases hs : Builtin.Range.small i j c with
  | true =>
    refine wpAny_pyIter_range (IsRange.new ..) hs ?_
    refine pi_one (tk := tk) I2 _ (turn_rangeC _ i c n) ?_ q
    show IsRangeIter _ _ (i + ((0 : Nat) : Int) * c) ((n : Int) - ((0 : Nat) : Int)) c
    rw [e1, e2]
    exact Heap.get?_push_size _ rfl
  | false =>
    refine wpAny_pyIter_longrange (IsRange.new ..) hs ?_
    refine pi_one (tk := tk) I2 _ (turn_long _ i c n) ?_ q
    show IsLongIter _ _ (i + ((0 : Nat) : Int) * c) ((n : Int) - ((0 : Nat) : Int)) c
    rw [e1, e2]
    exact Heap.get?_push_size _ rfl
def iRngW (ta : TA) : TI := fun σ H R => ta σ H fun vs H1 => ∃ (i j : Int), vs = [.int i, .int j] ∧ R (Itc i 1 (j - i).toNat) H1
theorem pi_rangeW {tg : Expr} {ta : TA} {p : Pos} (hg : Gl X "range") (hm : X.mg "range" = none) (ha : PA X [a, b] ta) (hs : starEach [a, b] X.env = (false, eval a X.env) :: starEach [b] X.env := by rfl) (hpl : (backTo pos (starEach [b] X.env)).any (·.1) = false := by rfl) :
    PI X tg (.Call (.Name "range" p) [a, b] [] pos) (iRngW ta) := by
  refine ⟨fun pins s σ H R I h => ?_⟩
  refine Call_ (ld_blt I hg hm boot_range (PyProof.Rows.callWith_type1 (thn (ha.run pos pins s σ H _ I h) fun us s1 ⟨vs, H1, I1, r1, q1⟩ => ?_) hs hpl))
  obtain ⟨i, j, e, q⟩ := q1
  subst e
  cases r1 with
  | cons r rr =>
    cases rr with
    | cons r' rr =>
      cases rr
      obtain ⟨t, rfl⟩ := r
      obtain ⟨t', rfl⟩ := r'
      exact call_range_2 (iter_any I1 (PyProof.Rows.rangeSize_nat i j) q)
def iRngWN (ta : TA) : TI := fun σ H R => ta σ H fun vs H1 => ∃ (i j : Int), vs = [.int i, .int j, .int (-1)] ∧ R (Itc i (-1) (i - j).toNat) H1
theorem pi_rangeWN {tg : Expr} {ta : TA} {p : Pos} (hg : Gl X "range") (hm : X.mg "range" = none) (ha : PA X [a, b, c] ta)
    (hs : starEach [a, b, c] X.env = (false, eval a X.env) :: starEach [b, c] X.env := by rfl) (hpl : (backTo pos (starEach [b, c] X.env)).any (·.1) = false := by rfl) :
    PI X tg (.Call (.Name "range" p) [a, b, c] [] pos) (iRngWN ta) := by
  refine ⟨fun pins s σ H R I h => ?_⟩
  refine Call_ (ld_blt I hg hm boot_range (PyProof.Rows.callWith_type1 (thn (ha.run pos pins s σ H _ I h) fun us s1 ⟨vs, H1, I1, r1, q1⟩ => ?_) hs hpl))
  obtain ⟨i, j, e, q⟩ := q1
  subst e
  cases r1 with
  | cons r rr =>
    cases rr with
    | cons r' rr =>
      cases rr with
      | cons r'' rr =>
        cases rr
        obtain ⟨t, rfl⟩ := r
        obtain ⟨t', rfl⟩ := r'
        obtain ⟨t'', rfl⟩ := r''
        exact call_range_3 (by decide) (iter_any (tk := s1.toks) I1 (PySem.W.rangeSize_downNat i j) q) (.inl (PyProof.noPylong_small (by decide)))
theorem iter_rangeW {w : Wd} {lo : Int} {n : Nat} : IterOf G w (Itc lo 1 n) (rngD lo n) := by
  have W1 := walk_rangeC (lo := lo) (c := 1) (n := n)
  unfold IterOf
  rw [show (rngD lo n).length = n by simp [rngD]]
  refine W1.mono (fun H2 h2 => trivial) fun i H2 y H3 hi2 _ hy => ?_
  exact ⟨.p (.int (lo + (i : Int))), by simp [rngD, hi2], .inl ⟨hy.1, fun w2 s2 => rep_int.mpr (by rw [hy.2]; simp)⟩⟩
def rngWK (ds : List D) (S1 : Store) : O (List D) := match ds with
  | [.p (.int i), .p (.int j)] => .ok (rngD i (j - i).toNat) S1
  | _ => .bad
theorem rngWK_e {i j : Int} {S : Store} : rngWK [.p (.int i), .p (.int j)] S = .ok (rngD i (j - i).toNat) S := (rfl)
def wRngW (fa : FA) (r : Rho) (S : Store) : O (List D) := (fa r S).bind rngWK
theorem ri_rangeW {tg : Expr} {p : Pos} {fa : FA} (hg : Gl X "range") (hm : X.mg "range" = none) (ha : RA G X W [a, b] fa)
    (hs : starEach [a, b] X.env = (false, eval a X.env) :: starEach [b] X.env := by rfl) (hpl : (backTo pos (starEach [b] X.env)).any (·.1) = false := by rfl) :
    RI G X W tg (.Call (.Name "range" p) [a, b] [] pos) (wRngW fa) := by
  refine RI.of' (pi_rangeW hg hm ha.pe hs hpl) fun σ H R ⟨w, S, ρ, ok, en, q⟩ => ?_
  unfold lf wRngW at q
  rw [out_bind] at q
  refine ⟨w, S, ρ, ok, en, out_mono q (fun ds S1 q vs w1 H1 x1 k1 rs => ?_) fun _ _ z => z⟩
  unfold rngWK at q
  split at q
  · rename_i i j
    match vs, rs with
    | [v1, v2], ⟨r1, r2, _⟩ => exact ⟨i, j, by rw [rep_int.mp r1, rep_int.mp r2], q _ w1 H1 x1 k1 iter_rangeW⟩
  · exact q.elim
def rngNK (ds : List D) (S1 : Store) : O (List D) := match ds with
  | [.p (.int i), .p (.int j), .p (.int c)] => chkA (decide (c = -1)) (rngN i (i - j).toNat) S1
  | _ => .bad
theorem rngNK_e {i j : Int} {S : Store} : rngNK [.p (.int i), .p (.int j), .p (.int (-1))] S = .ok (rngN i (i - j).toNat) S := (rfl)
def wRngN (fa : FA) (r : Rho) (S : Store) : O (List D) := (fa r S).bind rngNK
theorem ri_rangeN {tg : Expr} {p : Pos} {fa : FA} (hg : Gl X "range") (hm : X.mg "range" = none) (ha : RA G X W [a, b, c] fa)
    (hs : starEach [a, b, c] X.env = (false, eval a X.env) :: starEach [b, c] X.env := by rfl) (hpl : (backTo pos (starEach [b, c] X.env)).any (·.1) = false := by rfl) :
    RI G X W tg (.Call (.Name "range" p) [a, b, c] [] pos) (wRngN fa) := by
  refine RI.of' (pi_rangeWN hg hm ha.pe hs hpl) fun σ H R ⟨w, S, ρ, ok, en, q⟩ => ?_
  unfold lf wRngN at q
  rw [out_bind] at q
  refine ⟨w, S, ρ, ok, en, out_mono q (fun ds S1 q vs w1 H1 x1 k1 rs => ?_) fun _ _ z => z⟩
  unfold rngNK at q
  split at q
  · rename_i i j c
    obtain ⟨h1, h2⟩ := out_chkA q
    have h1 := of_decide_eq_true h1
    subst h1
    match vs, rs with
    | [v1, v2, v3], ⟨r1, r2, r3, _⟩ => exact ⟨i, j, by rw [rep_int.mp r1, rep_int.mp r2, rep_int.mp r3], h2 _ w1 H1 x1 k1 iter_rangeN⟩
  · exact q.elim
/-! ### xs.insert(i, y) -/
def dInsert (d : D) (ds : List D) (S : Store) : O D := match d, ds with
  | .cell n, [.p (.int i), .p p] => match S[n]? with
    | some (.lst ps) => chk (decide (ps.length < sizeLine) && (decide (0 ≤ i) && decide (i < 2 ^ 63))) (.p .non) (S.set n (.lst (ps.take i.toNat ++ [p] ++ ps.drop i.toNat)))
    | _ => .bad
  | _, _ => .bad
theorem ml_insert : MtL G X "list.insert" dInsert := by
  refine ⟨fun d ds S Q => ∀ E, out (dInsert d ds S) Q E, ⟨⟨_, mt_insert, fun x xs H Q w S d ds k r rs q => ?_⟩, fun d ds S Q Q' hq h E => out_mono (h E) hq fun _ _ z => z⟩, fun d ds S Q E h E' => ?_⟩
  · replace q := q fun _ _ => False
    unfold dInsert at q
    split at q
    · rename_i n i p
      split at q
      · rename_i ps hs
        obtain ⟨h1, h2⟩ := out_chk q
        simp only [Bool.and_eq_true, decide_eq_true_eq] at h1
        obtain ⟨a, rfl, ha⟩ := r
        match xs, rs with
        | [v1, v2], ⟨r1, r2, _⟩ =>
          obtain ⟨nI, vs, z, rp⟩ := k.cells n _ a hs ha
          have rn : Reps G w.I (vs.take i.toNat ++ [v2] ++ vs.drop i.toNat) (ps.take i.toNat ++ [p] ++ ps.drop i.toNat) := ((rp.take _).append (Reps.cons r2 Reps.nil)).append (rp.drop _)
          obtain ⟨k2, x2⟩ := k.write (o := .lst (vs.take i.toNat ++ [v2] ++ vs.drop i.toNat)) (c' := .lst (ps.take i.toNat ++ [p] ++ ps.drop i.toNat)) hs ha nI ⟨nI, _, upd_same, rn⟩
          exact ⟨a, vs, i, v2, rfl, by rw [rep_int.mp r1], z, by rw [rp.length]; exact h1.1, h1.2.1, h1.2.2, h2 .non w _ x2 k2 (rep_non.mpr rfl)⟩
      · exact q.elim
    · exact q.elim
  · unfold dInsert at h ⊢
    split at h
    · split at h
      · exact (out_chk h).1 ▸ (out_chk h).2
      · exact h.elim
    · exact h.elim
/-! ### o.m(), a method of a built-in class -/
def bm0K (T : String) (q : PM) (d : D) (S1 : Store) : O D := if tyS S1 d = some T then q d [] S1 else .bad
def wBM0 (T : String) (q : PM) (fo : FE) (r : Rho) (S : Store) : O D := (fo r S).bind (bm0K T q)
theorem re_bm0 {T id : String} {name : Str} {q : PM} {fo : FE} (hK : X.K = G.K) (pa : PlainAttrs T) (slot : Slot T name id) (hty : typeOf (.builtin id) = pure (.type "method_descriptor")) (hT : T ∈ ["str", "list", "dict"]) (hm : MtL G X id q) (ho : RE G X W o fo)
    (hbase : attributeBase o name X.env (eval o X.env) = eval o X.env := by rfl) (hline : (apos.endLine == pos.line) = true := by rfl) : RE G X W (.Call (.Attribute o name apos) [] [] pos) (wBM0 T q fo) := by
  obtain ⟨dd, hd, s⟩ := hm.ex
  obtain ⟨rr, h1, h2⟩ := hd.run
  refine ⟨PE.imp (pe_bm0 pa slot hty h1 ho.pe hbase hline) fun σ H Q ⟨w, S, ρ, ok, en, z⟩ => ?_, lf_mon _⟩
  unfold lf wBM0 at z
  rw [out_bind] at z
  refine tM.bind (lf_mon fo) ok en z (fun _ _ _ z => z) fun d S' v w' H' x k r1 z => ?_
  unfold bm0K at z
  split at z
  · rename_i e1
    exact ⟨tyV_of hK k r1 e1 hT, h2 v [] H' Q w' S' d [] k r1 trivial (hd.mono _ _ _ _ _ (fun _ _ u => u.ext x) (s _ _ _ _ _ z))⟩
  · exact z.elim
def dClear (d : D) (ds : List D) (S : Store) : O D := match d, ds with
  | .cell n, [] => match S[n]? with
    | some (.lst _) => .ok (.p .non) (S.set n (.lst []))
    | _ => .bad
  | _, _ => .bad
theorem ml_clear : MtL G X "list.clear" dClear := by
  refine ⟨fun d ds S Q => ∀ E, out (dClear d ds S) Q E, ⟨⟨_, mt_clear, fun x xs H Q w S d ds k r rs q => ?_⟩, fun d ds S Q Q' hq h E => out_mono (h E) hq fun _ _ z => z⟩, fun d ds S Q E h E' => ?_⟩
  · replace q := q fun _ _ => False
    unfold dClear at q
    split at q
    · rename_i n
      split at q
      · rename_i ps hs
        obtain ⟨a, rfl, ha⟩ := r
        match xs, rs with
        | [], _ =>
          obtain ⟨nI, vs, z, rp⟩ := k.cells n _ a hs ha
          obtain ⟨k2, x2⟩ := k.write (o := .lst []) (c' := .lst []) hs ha nI ⟨nI, _, upd_same, Reps.nil⟩
          exact ⟨a, vs, rfl, rfl, z, q .non w _ x2 k2 (rep_non.mpr rfl)⟩
      · exact q.elim
    · exact q.elim
  · unfold dClear at h ⊢
    split at h
    · split at h
      · exact h
      · exact h.elim
    · exact h.elim
end
end RB.F
/-! Errors of own classes over any of the built-in bases, with one field. -/
namespace RB.F
open PySem PySem.Spec PyProof.Rows L2 RB
/-- the built-in bases that are served -/
inductive BaseK : String → String → String → List Value → Prop
  | value : BaseK "ValueError" "ValueError.__new__" "ValueError.__init__" [.type "ValueError", .type "Exception", .type "BaseException", .type "object"]
  | index : BaseK "IndexError" "IndexError.__new__" "IndexError.__init__" [.type "IndexError", .type "LookupError", .type "Exception", .type "BaseException", .type "object"]
  | lookup : BaseK "LookupError" "LookupError.__new__" "LookupError.__init__" [.type "LookupError", .type "Exception", .type "BaseException", .type "object"]
  | overflow : BaseK "OverflowError" "OverflowError.__new__" "OverflowError.__init__" [.type "OverflowError", .type "ArithmeticError", .type "Exception", .type "BaseException", .type "object"]
  | runtime : BaseK "RuntimeError" "RuntimeError.__new__" "RuntimeError.__init__" [.type "RuntimeError", .type "Exception", .type "BaseException", .type "object"]
theorem BaseK.facts {b nw ini : String} {tl : List Value} (h : BaseK b nw ini tl) : ExcBaseFacts b nw ini tl := by
  cases h
  · exact PySem.F.excBase_ValueError
  · exact PySem.F.excBase_IndexError
  · exact PySem.F.excBase_LookupError
  · exact PySem.F.excBase_OverflowError
  · exact PySem.F.excBase_RuntimeError
theorem BaseK.store {b nw ini : String} {tl : List Value} (h : BaseK b nw ini tl) : StoreFacts b tl "object.__setattr__" "object" := by
  cases h
  · exact PySem.F.store_ValueError
  · exact PySem.F.store_IndexError
  · exact PySem.F.store_LookupError
  · exact PySem.F.store_OverflowError
  · exact PySem.F.store_RuntimeError
/-- what is known of an own error's class -/
structure OexG (K : PySem.W.Frag) (C : Addr) : Prop where
  at_ : ∃ b nw ini tl, BaseK b nw ini tl ∧ ∃ nm qn N bs sn sb ab cl dd y0 y1 y2 y3 y5, K.lookup C = some (excClassObj nm qn C N bs tl true sn sb ab cl dd y0 y1 y2 y3 y5 nw)
  sa : PySem.W.findIn K (.ref C) "__setattr__" = some (some (.builtin "object.__setattr__"))
  exC : PySem.W.subIn K (.ref C) (.type "BaseException") = some true
  tyC : PySem.W.typeIn K (.ref C) = some (.type "type")
  kC : PySem.W.keepIn K (.ref C) = true
section
open Builtin Builtin.ObjectAttr
variable {prog : Program} {w : World} {A : Around} {R : Result → Shared → Prop} {h0 : Heap} {gs : Array GenState} {dr : Drawn} {n0 : Nat} {os : OsState}
/-- object.__setattr__ of an error that has no dict yet -/
theorem set_first {K : W.Frag} {nm : Str} {tk : Tok} {v : Value} {x C : Addr} {fv : Array Value} {cd : ClassData} {b nw ini : String} {tl : List Value} (BK : BaseK b nw ini tl)
    (KX : K.In h0) (hx : h0.get? x = some { cls := .ref C, data := .fields fv }) (hcd : W.clsIn K C = some cd) (hm : cd.mro = .ref C :: tl) (hh : cd.hasDict = true) (no : W.findIn K (.ref C) nm = some none)
    (hq : ∀ h1 tk1 dx, (∀ b o, b ≠ x → h0.get? b = some o → h1.get? b = some o) → h0.objs.size ≤ dx → dx ≠ x → h1.get? x = some { cls := .ref C, dict := some dx, data := .fields fv } → h1.Ns1 dx (fun y => if y = nm then some v else none) → R (.ok (.ret .none)) ⟨h1, gs, dr, tk1, os⟩) :
    codeAny (model prog w) A (.call (.builtin "object.__setattr__") ⟨[.ref x, .str nm tk, v], []⟩) R ⟨h0, gs, dr, n0, os⟩ := by
  have at_ : W.InstAt h0 x { cls := .ref C, data := .fields fv } C none := ⟨hx, rfl, rfl, trivial⟩
  have SO := PySem.F.store_object
  have old : cd.mro.contains (.type "object") = true := by
    rw [hm, List.contains_cons, BK.store.hasOwner, Bool.or_true]
  have old2 : cd.mro.isEmpty = false := by rw [hm]; rfl
  have xs : x ≠ h0.objs.size := Nat.ne_of_lt (Heap.lt_size hx)
  have isO : W.Looks (model prog w) h0 (isInstance (.ref x) (.type "object")) true := by
    refine at_.type.andThen (W.looks_mroIn KX ?_)
    unfold W.mroIn
    rw [hcd, Option.bind_some, if_neg (by rw [old2]; decide), old]
  refine codeAny_call_builtin SO.slot.plain SO.entry ?_
  refine @W.check_slot (model prog w) _ _ ⟨h0, gs, dr, n0, os⟩ "object.__setattr__" "object" "__setattr__" (.ref x) [.str nm tk, v] [] _ SO.kind SO.split isO (SO.args (.ref x) (.str nm tk) v) ?_
  have seeC : W.Looks (model prog w) h0 (classData C) cd := W.looks_clsIn KX hcd
  have seeM : W.Looks (model prog w) h0 (mroOf (.ref C)) cd.mro := seeC.andThen .now
  have seeT : W.Looks (model prog w) h0 (storeTaker? none) none := .now
  rw [W.osa_eq, refuse_eq]
  refine wpAny_bind (wpAny_bind (at_.type.at ?_))
  refine wpAny_bind (seeM.at ?_)
  rw [hm, refuseLoop_ref, BK.store.passes]
  refine wpAny_pure (wpAny_bind (at_.type.at ?_))
  refine wpAny_bind ((W.looks_findIn KX no).at ?_)
  refine wpAny_bind (seeT.at ?_)
  show wpAny _ _ (storeInOwnDict (.ref x) (.ref C) (.str nm tk) nm v false) _ _ _
  obtain ⟨c1, c2, c3, c4, c5, c6, c7, c8, c9, c10, c11⟩ := cd
  dsimp only at hh
  subst hh
  unfold storeInOwnDict ownDictForStores
  repeat (first | with_reducible refine PySem.HandSPX.store_in_new ?_ ?_ | with_reducible refine wpAny_loadPart_at hx ?_ | with_reducible refine seeC.at ?_ | wp_step)
  · exact ⟨_, #[], _, (Heap.get?_update_ne _ _ _ _ xs.symm).trans (Heap.get?_push_at rfl rfl), rfl, fun e he => absurd he (by simp), fun _ => rfl⟩
  · intro h1 tk1 ns sm
    have hx1 : (h0.push { cls := .type "dict", data := .dict #[] }).get? x = some { cls := .ref C, data := .fields fv } := Heap.get?_push_of_some _ hx
    refine hq h1 tk1 h0.objs.size (fun b o hb ho => ?_) (Nat.le_refl _) xs.symm ?_ ns
    · exact (sm.2 b (Nat.ne_of_lt (Heap.lt_size ho))).trans ((Heap.get?_update_ne _ _ _ _ hb).trans (Heap.get?_push_of_some _ ho))
    · exact (sm.2 x xs).trans (Heap.get?_update_self _ hx1 rfl)
end
section
variable {X : Cx} {pins : List (Addr × Obj)} {σ : L2.St} {H : Hp} {s : Shared} {a C : Addr} {f : Str} {y : V} {u : Value} {Q : Unit → Shared → Prop} {E : Value → Shared → Prop} {A : Around}
/-- self.f = y, the first field -/
theorem ost_first (T : OexG X.K C) (I : Inv X pins σ H s) (ea : H a = some (exo a C none)) (no : PySem.W.findIn X.K (.ref C) f = some none) (ry : RelV y u)
    (k : ∀ dx s', H dx = none → dx ≠ a → Inv X pins σ (upd (upd H dx (exd dx [(f, y)])) a (exo a C (some dx))) s' → Q () s') : wpAny (model X.prog X.w) A (setAttr (.ref a) f u) Q E s := by
  obtain ⟨b, nw, ini, tl, BK, nm, qn, N, bs, sn, sb, ab, cl, dd, y0, y1, y2, y3, y5, lk⟩ := T.at_
  have cin : PySem.W.clsIn X.K C = some { name := nm, bases := bs, mro := .ref C :: tl, ns := N, qualname := qn, hasDict := true, slotNames := sn, subclasses := sb, abstract := ab, collection := cl, hasDel := false } := by
    unfold PySem.W.clsIn
    rw [lk] <;> rfl
  obtain ⟨tt, at_⟩ := exo_at I.hok ea
  obtain ⟨h0, gs, dr, n0, os⟩ := s
  refine PySem.W.set_plain I.kIn (ox := { cls := .ref C, dict := none, data := .fields #[.ref tt, .none, .none, .none, .bool false, .none] }) (od := none) ⟨at_, rfl, rfl, trivial⟩ T.sa ?_
  refine set_first BK I.kIn at_ cin rfl rfl no (fun h1 tk1 dx keep big ne hx ns => ?_)
  have fr : H dx = none := I.hok.fresh big
  have nd : ∀ {b : Addr} {o : Obj}, h0.get? b = some o → b ≠ dx := fun z => Nat.ne_of_lt (Nat.lt_of_lt_of_le (Heap.lt_size z) big)
  have na : ∀ {b : Addr}, H b = none → b ≠ a := fun z e => by
    rw [e, ea] at z
    cases z
  have U : Un X.fs [] H (upd (upd H dx (exd dx [(f, y)])) a (exo a C (some dx))) h0 h1 := by
    refine { keep := ?_, slot := ?_, free := ?_, there := ?_, tups := ?_, frzs := ?_, tbls := ?_ }
    · exact fun b o z n _ _ => keep b o (na n) z
    · exact fun b o z n _ _ => ⟨o.slots, keep b o (na n) z⟩
    · intro b o z n _
      rw [upd_ne (na n), upd_ne (nd z)]
      exact n
    · intro b o z _
      by_cases e : b = a
      · subst e
        exact ⟨_, hx⟩
      · exact ⟨o, keep b o e z⟩
    · intro b xs z
      rw [upd_ne (at_ne ea z exo_tup), upd_ne (ne_of_none z fr)]
      exact z
    · intro b o v z
      rw [upd_ne (at_ne ea z exo_frz), upd_ne (ne_of_none z fr)]
      exact z
    · intro b qs z
      refine ⟨#[], ?_⟩
      rw [upd_ne (at_ne ea z exo_tbl), upd_ne (ne_of_none z fr), z]
      simp
  refine k dx _ fr ne (I.un (t' := tk1) U fun b o z => ?_)
  by_cases e : b = a
  · subst e
    rw [upd_same] at z
    cases z
    exact exo_ok hx
  rw [upd_ne e] at z
  by_cases e2 : b = dx
  · subst e2
    rw [upd_same] at z
    cases z
    exact exd_ok ns (relO_put (fs := []) ry fun g => True.intro)
  rw [upd_ne e2] at z
  refine (I.hok b o z).stay (fun c v hc q => keep c v ?_ q) (fun c hc => ?_) fun c xs hc => ?_
  · rcases hc with hc | hc
    · rw [hc]
      exact e
    · exact at_ne ea hc exo_own
  · rw [upd_ne (at_ne ea hc exo_own), upd_ne (ne_of_none hc fr)]
    exact hc
  · rw [upd_ne (at_ne ea hc exo_tup), upd_ne (ne_of_none hc fr)]
    exact hc
end
/-- __init__ of an error with one field -/
def spG (K : PySem.W.Frag) (f : Str) : Sp := fun vs H Q _ => ∃ (a C : Addr) (y : V), vs = [.ref a, y] ∧ OexG K C ∧ PySem.W.findIn K (.ref C) f = some none ∧ H a = some (exo a C none) ∧
  ∀ dx, H dx = none → dx ≠ a → Q .non (L2.upd (L2.upd H dx (exd dx [(f, y)])) a (exo a C (some dx)))
section
variable {X : Cx} {o e : Expr} {f : Str} {p' pos : Pos} {to te : TE}
def tOne (K : PySem.W.Frag) (f : Str) (to te : TE) : TS := fun D σ H => te σ H fun y H1 => to σ H1 fun x H2 => ∃ a C, x = .ref a ∧ OexG K C ∧ PySem.W.findIn K (.ref C) f = some none ∧ H2 a = some (exo a C none) ∧
  ∀ dx, H2 dx = none → dx ≠ a → D.nx σ (L2.upd (L2.upd H2 dx (exd dx [(f, y)])) a (exo a C (some dx)))
theorem ps_one (ho : PE X o to) (he : PE X e te) (hs : swapsWith e (some (.Attribute o f p')) pos.line X.env = pure false := by rfl) : PS X (.Assign [.Attribute o f p'] e pos) (tOne X.K f to te) := by
  refine ⟨fun pins s σ H D I h => plainObj_wpAny_Assign_Attribute ?_ hs⟩
  refine thn (he.run pins s σ H _ I h) fun v s1 ⟨y, H1, I1, r1, q1⟩ => ?_
  refine thn (ho.run pins s1 σ H1 _ I1 q1) fun u s2 ⟨x, H2, I2, r2, a, C, ex, T, no, ea, q⟩ => ?_
  subst ex
  cases r2
  exact ost_first T I2 ea no r1 fun dx s' n ne J => ⟨σ, _, J, q dx n ne⟩
end
section
variable {P : Program} {w : World} {K : PySem.W.Frag} {mg : Str → Option Value} {base : Heap} {x qual : Str} {params : Arguments} {scope : Scope} {dvs : List V} {kws : List (Str × V)} {f : Addr} {fd : FuncData}
theorem ok_initG {CX : CXT} {N ps : List Str} {p1 p2 p3 p4 : Pos} {me a1 f1 : Str} (F : FunD K x qual params [.Assign [.Attribute (.Name me p1) f1 p2] (.Name a1 p3) p4] scope dvs kws f fd) (S : FnScope N ps scope) (hp : ps.length = 2) (hN : N = [me, a1])
    (v0 : Vis scope me) (v1 : Vis scope a1) (d0 : (me == ("__debug__" : Str)) = false := by decide) (d1 : (a1 == ("__debug__" : Str)) = false := by decide) (c0 : (me == ("__classdict__" : Str)) = false := by decide) (c1 : (a1 == ("__classdict__" : Str)) = false := by decide) :
    FnOk P w K mg base CX 1 f fd ps (spG K f1) := by
  refine FunD.ok (k := 0) F S (fun vs H Q E ⟨a, C, y, e, _⟩ => by rw [e, hp]; rfl) fun cdv A outer s H vs Q E hr hsp => ?_
  subst hN
  refine ⟨_, pss_one (ps_one (pe_var (i := 0) rfl v0 d0 c0) (pe_var (i := 1) rfl v1 d1 c1)), ?_⟩
  obtain ⟨a, C, y, rfl, T, no, ha, q⟩ := hsp
  exact ⟨y, rfl, .ref a, rfl, a, C, rfl, T, no, ha, fun dx n ne => q dx n ne⟩
end
end RB.F
/-! The head's facts, read off all objects that lie below an address. -/
namespace RB.F
open PySem PySem.Spec PyProof.Rows L2 RB
def obsNG (n : Nat) (fa : List He.Fa) (fn : List He.DefD) (ck : PySem.W.Frag → Bool) (g : Addr → Option Obj) : He.AlD × Bool := obsC fa fn ck (He.frG g (List.range n))
def hookN (n : Nat) (fa : List He.Fa) (fn : List He.DefD) (ck : PySem.W.Frag → Bool) : PySem.W.Hook where
  α := He.AlD × Bool
  obs := fun s => obsNG n fa fn ck s.heap.get?
  val := fun _ => (He.valD fn, true)
  says := fun _ h => ∃ K : PySem.W.Frag, K.In h ∧ He.SaysD fa fn K ∧ KSys K ∧ ck K = true
  of := fun _ _ e => ⟨_, He.frG_in, congrArg Prod.fst e, Option.isSome_iff_exists.mp (and2 (congrArg Prod.snd e)).1, (and2 (congrArg Prod.snd e)).2⟩
  keeps := fun _ _ _ ⟨K, hK, c⟩ k => ⟨K, PySem.W.Frag.In.keeps hK k, c⟩
theorem obsNG_eq {n : Nat} {fa : List He.Fa} {fn : List He.DefD} {ck : PySem.W.Frag → Bool} {g : Addr → Option Obj} {s : Shared} (h : ∀ a, g a = s.heap.get? a) : obsNG n fa fn ck g = (hookN n fa fn ck).obs s := by
  have e : g = s.heap.get? := funext h
  rw [e]
  rfl
end RB.F
/-! raise X(e), X an own class over a built-in base, with one field. -/
namespace RB.F
open PySem PySem.Spec PyProof.Rows L2 RB
section
variable {X : Cx} {e : Expr} {es : List Expr} {ta : TA} {p pos : Pos}
/-- an error of an own class is made: what its __init__ leaves -/
theorem pmk_own1 {CX : CXT} {x : Str} {C fI : Addr} {k : Nat} {fd : FuncData} {ps : List Str} {sp : Sp} (T : OexG X.K C) (iC : PySem.W.findIn X.K (.ref C) "__init__" = some (some (.ref fI))) (tI : PySem.W.typeIn X.K (.ref fI) = some (.type "function"))
    (Fi : FnOk X.prog X.w X.K X.mg X.base CX k fI fd ps sp) (hr : Room (k + 1) X.A) (hb : Binds X.K fd ps []) (hx : Passes CX X (fun _ _ _ => False)) (hg : Gl X x) (hm : X.mg x = some (.ref C)) (ha : PA X (e :: es) ta)
    (hdb : (x == ("__debug__" : Str)) = false := by decide) (he : starEach (e :: es) X.env = (false, eval e X.env) :: starEach es X.env := by rfl) (hpl : (backTo pos (starEach es X.env)).any (·.1) = false := by rfl) :
    PMk X (.Call (.Name x p) (e :: es) [] pos) (tMkO C sp [] ta) := by
  intro pins s σ H Q I h
  obtain ⟨b, nw, ini, tl, BK, nm, qn, N, bs, sn, sb, ab, cl, dd, y0, y1, y2, y3, y5, lk⟩ := T.at_
  refine wpAny_Call_Name_kw (ld_glob I hg hm ?_ hdb)
  refine PySem.W.callWith_K (h₀ := X.base) I.ok.mod.kin T.kC (thn (ha.run pos pins s σ H _ I h) fun us s1 ⟨vs, H1, I1, r1, hz, q1⟩ => ⟨I1.kIn, ?_⟩) he hpl
  show wpAny _ _ (call (.ref C) us) _ _ _
  obtain ⟨h0, gs, dr, tk, os⟩ := s1
  generalize hA : h0.objs.size + 1 = at_
  have big : h0.objs.size ≤ at_ := by omega
  have fr : H1 at_ = none := I1.hok.fresh big
  have hq := q1 at_ fr
  rw [List.append_nil] at hq
  have grow : ∀ b o, h0.get? b = some o → ((h0.push (PySem.W.kdv_tup us)).push (PySem.HandSPX.excO C h0.objs.size)).get? b = some o := fun b o z => Heap.get?_push_of_some _ (Heap.get?_push_of_some _ z)
  have there : ((h0.push (PySem.W.kdv_tup us)).push (PySem.HandSPX.excO C h0.objs.size)).get? at_ = some (PySem.HandSPX.excO C h0.objs.size) := by
    subst hA
    heap_get
  have I2 := I1.laid (t' := tk) (a := at_) (o := exo at_ C none) (h' := (h0.push (PySem.W.kdv_tup us)).push (PySem.HandSPX.excO C h0.objs.size)) grow big (exo_ok there)
  have r2 : Vals (V.ref at_ :: vs) (Value.ref at_ :: us) := .cons rfl r1
  have ln : (Value.ref at_ :: us).length = ps.length := by
    have z := r2.length
    rw [Fi.len _ _ _ _ hq] at z
    exact z.symm
  have few : us.length ≤ sizeLine := by
    rw [← Paired.length r1, sizeLine_eq]
    omega
  have bn : BindsTo ⟨(h0.push (PySem.W.kdv_tup us)).push (PySem.HandSPX.excO C h0.objs.size), gs, dr, tk, os⟩ fd ⟨Value.ref at_ :: us, []⟩ (ps.zip (Value.ref at_ :: us)) := by
    have z := hb _ (Value.ref at_ :: us) I2.kIn (by rw [List.append_nil]; exact ln)
    rwa [List.append_nil] at z
  refine wpAny_call (PySem.HandSPX.call_own BK.facts (fun _ => rfl) (I1.kIn _ _ lk) (PySem.W.looks_findIn I1.kIn iC) (fun self => PySem.W.bind_fn I1.kIn self tI) few ?_)
  rw [hA]
  refine codeAny_mono (Fi.run _ X.stack _ _ ⟨Value.ref at_ :: us, []⟩ (Value.ref at_ :: us) _ _ (fun _ _ _ => False) (hr.make C us []) (I2.env0.make C us []) bn r2 hq) fun r s' z => ?_
  cases r with
  | error er => exact hx pins σ _ _ er s' I2 z
  | ok fl =>
    cases fl with
    | ret u =>
      obtain ⟨v, H2, os2, bare2, un2, hok2, rv, ev, d, fs, ea, ed, hd1, q2⟩ := z
      subst ev
      obtain ⟨h2, g2, d2, t2, os'⟩ := s'
      exact ⟨rv, mk_end (raises_own T.exC T.tyC) I1 big grow un2 hok2 os2 bare2 ea ed hd1 q2⟩
    | next => exact False.elim z
    | brk => exact False.elim z
    | cont => exact False.elim z
end
/-- what a row knows of an error's class -/
structure ExG (K : PySem.W.Frag) (C fI : Addr) (f : Str) : Prop where
  T : OexG K C
  i : PySem.W.findIn K (.ref C) "__init__" = some (some (.ref fI))
  t : PySem.W.typeIn K (.ref fI) = some (.type "function")
  no : PySem.W.findIn K (.ref C) f = some none
section
variable {G : Glob} {X : Cx} {W : WX} {n k : Nat} {fI Cc : Addr} {fd : FuncData} {ps : List Str} {f x : Str} {p pos pos' : Pos} {e : Expr} {es : List Expr} {fa : FA} {c : String}
theorem rs_raiseG (C : CxG G X W n) (T : ExG X.K Cc fI f) (Fi : FnOk X.prog X.w X.K X.mg X.base (L2.CX X.prog X.w) k fI fd ps (spG X.K f)) (hk : k + 1 ≤ n) (hb : Binds X.K fd ps []) (hg : Gl X x) (hm : X.mg x = some (.ref Cc)) (hc : G.cls c = some Cc) (hi : G.isE c = true) (ha : RA G X W (e :: es) fa)
    (hdb : (x == ("__debug__" : Str)) = false := by decide) (he : starEach (e :: es) X.env = (false, eval e X.env) :: starEach es X.env := by rfl) (hpl : (backTo pos (starEach es X.env)).any (·.1) = false := by rfl) :
    RS G X W (.Raise (some (.Call (.Name x p) (e :: es) [] pos)) none pos') (wRaise c [f] fa) := by
  have M := pmk_own1 (pos := pos) (p := p) T.T T.i T.t Fi (C.rm.mono hk) hb (passes_call C.tk fun _ _ _ _ z => z.elim) hg hm ha.pe hdb he hpl
  refine ⟨PS.imp (ps_raise C.calm C.tk M) fun D σ H ⟨w, S, r, ok, en, q⟩ => ?_, lfS_mon _⟩
  unfold lfS wRaise at q
  rw [outS_st] at q
  refine ⟨w, S, r, ok, en, out_mono q (fun ds S1 q vs w1 H1 x1 k1 rs => ?_) fun y S' z => z.at_ en⟩
  try dsimp only at q
  split at q
  · rename_i qs hq
    split at q
    · rename_i hl
      simp only [Bool.and_eq_true, decide_eq_true_eq] at hl
      have rp := rs.pure hq
      have lv : vs.length = 1 := by rw [rp.length, hl.1]; rfl
      match vs, lv with
      | [v], _ =>
        match qs, hl.1 with
        | [d], _ =>
          refine ⟨by show 1 ≤ 1000; decide, fun a na => ?_⟩
          refine ⟨a, Cc, v, rfl, T.T, T.no, upd_same, fun dx nd ne => ?_⟩
          have nd1 : H1 dx = none := by
            rw [upd_ne ne] at nd
            exact nd
          refine ⟨rfl, dx, [(f, v)], upd_same, by rw [upd_ne ne, upd_same], nd1, ?_⟩
          have eH : L2.upd (L2.del (L2.upd (L2.upd (L2.upd H1 a (exo a Cc none)) dx (exd dx [(f, v)])) a (exo a Cc (some dx))) a) dx (.xd [(f, v)]) = L2.upd H1 dx (.xd [(f, v)]) := by
            funext b
            by_cases h1 : b = dx
            · subst h1
              rw [upd_same, upd_same]
            · rw [upd_ne h1, upd_ne h1]
              by_cases h2 : b = a
              · subst h2
                rw [del_same, na]
              · rw [del_ne h2, upd_ne h2, upd_ne h1, upd_ne h2]
          rw [eH]
          obtain ⟨k2, x2⟩ := k1.alloc (o := .xd [(f, v)]) nd1
          refine q σ (.ref Cc) (some dx) _ _ (x1.trans x2) k2 ((en.mono x1).mono x2) ⟨by rw [hc]; rfl, hi, .inr ⟨dx, _, rfl, upd_same, rfl, ?_⟩⟩
          simp only [Reps] at rp
          obtain ⟨v2, r2, e2, rv, e3⟩ := rp
          obtain ⟨e4, _⟩ := List.cons.inj e2
          subst e4
          exact Reps.cons (rv.mono x2.I) Reps.nil
    · exact q.elim
  · exact q.elim
end
/-! ### checks -/
def oexGO (K : PySem.W.Frag) (C : Addr) (nw : String) (tl : List Value) : Bool := match K.lookup C with
  | some ⟨.type "type", _, .cls cd, sl⟩ => (match cd.mro, sl.toList with
    | .ref C' :: bm, [_, _, _, _, some (.builtin i), _] => dec (C' = C) && (dec (i = nw) && (!cd.hasDel && (cd.hasDict && dec (bm = tl))))
    | _, _ => false)
  | _ => false
theorem oexGO_ok {K : PySem.W.Frag} {C : Addr} {nw : String} {tl : List Value} (q : oexGO K C nw tl = true) : ∃ nm qn N bs sn sb ab cl dd y0 y1 y2 y3 y5, K.lookup C = some (excClassObj nm qn C N bs tl true sn sb ab cl dd y0 y1 y2 y3 y5 nw) := by
  unfold oexGO at q
  split at q
  · rename_i dd cd sl ho
    split at q
    · rename_i C' bm k0 k1 k2 k3 i k5 hm hs
      obtain ⟨q1, q⟩ := and2 q
      obtain ⟨q2, q⟩ := and2 q
      obtain ⟨q3, q⟩ := and2 q
      obtain ⟨q4, q5⟩ := and2 q
      have q1 := dec_ok q1
      have q2 := dec_ok q2
      have q5 := dec_ok q5
      subst q1 q2 q5
      obtain ⟨nm, bs, mro, ns, qn, hd, sn, sub, ab, col, del⟩ := cd
      have q6 : del = false := by simpa using q3
      have q7 : hd = true := q4
      have q8 : mro = .ref C' :: bm := hm
      subst q6
      subst q7
      subst q8
      obtain ⟨ls⟩ := sl
      simp only at hs
      subst hs
      exact ⟨nm, qn, ns, bs, sn, sub, ab, col, dd, k0, k1, k2, k3, k5, ho⟩
    · cases q
  · cases q
def oexGB (K : PySem.W.Frag) (C : Addr) (nw : String) (tl : List Value) : Bool := oexGO K C nw tl && (dec (PySem.W.findIn K (.ref C) "__setattr__" = some (some (.builtin "object.__setattr__"))) && (dec (PySem.W.subIn K (.ref C) (.type "BaseException") = some true) && (dec (PySem.W.typeIn K (.ref C) = some (.type "type")) && PySem.W.keepIn K (.ref C))))
theorem oexGB_ok {K : PySem.W.Frag} {C : Addr} {b nw ini : String} {tl : List Value} (BK : BaseK b nw ini tl) (h : oexGB K C nw tl = true) : OexG K C := by
  obtain ⟨h1, h⟩ := and2 h
  obtain ⟨h2, h⟩ := and2 h
  obtain ⟨h3, h⟩ := and2 h
  obtain ⟨h4, h5⟩ := and2 h
  exact ⟨⟨b, nw, ini, tl, BK, oexGO_ok h1⟩, dec_ok h2, dec_ok h3, dec_ok h4, h5⟩
def exGB (K : PySem.W.Frag) (x f : Str) (nw : String) (tl : List Value) : Bool := oexGB K (He.ga K x) nw tl && (dec (PySem.W.findIn K (.ref (He.ga K x)) "__init__" = some (some (.ref (He.ma K (He.ga K x) "__init__")))) &&
  (dec (PySem.W.typeIn K (.ref (He.ma K (He.ga K x) "__init__")) = some (.type "function")) && dec (PySem.W.findIn K (.ref (He.ga K x)) f = some none)))
theorem exGB_ok {K : PySem.W.Frag} {x f : Str} {b nw ini : String} {tl : List Value} (BK : BaseK b nw ini tl) (h : exGB K x f nw tl = true) : ExG K (He.ga K x) (He.ma K (He.ga K x) "__init__") f := by
  obtain ⟨h1, h⟩ := and2 h
  obtain ⟨h2, h⟩ := and2 h
  obtain ⟨h3, h4⟩ := and2 h
  exact ⟨oexGB_ok BK h1, dec_ok h2, dec_ok h3, dec_ok h4⟩
end RB.F
/-! Own operators: +, in, [ ], and == of tuples whose items have an own ==. -/
namespace RB.F
open PySem PySem.Spec PyProof.Rows L2 RB
section
variable {G : Glob} {X : Cx} {W : WX} {n k : Nat} {a b : Expr} {pos : Pos} {f1 f2 : FE}
/-- a two-place operation that may raise -/
def OpX (G : Glob) (X : Cx) (W : WX) (g : Value → Value → Sem Value) (f : P2) : Prop :=
  ∀ (pins : List (Addr × Obj)) (s : Shared) (σ : L2.St) (H : Hp) (x y : V) (v u : Value) (Q : VK), Inv X pins σ H s → RelV x v → RelV y u →
    (∃ w S d1 d2, Wok G w S H ∧ RepD G w x d1 ∧ RepD G w y d2 ∧ out (f d1 d2 S) (Qv G w H Q) (Qx G w H fun c d H' => W c d σ H')) → wpAny (model X.prog X.w) X.A (g v u) (EP X pins σ Q) X.xe s
theorem binX {f : P2} {g : Value → Value → Sem Value} (ho : OpX G X W g f) (ha : RE G X W a f1) (hb : RE G X W b f2) {pins : List (Addr × Obj)} {s : Shared} {σ : L2.St} {H : Hp} {Q : VK} (I : Inv X pins σ H s) (q : tM G W (lf (wBin f f1 f2)) σ H Q) :
    wpAny (model X.prog X.w) X.A (eval a X.env) (fun v s₁ => wpAny (model X.prog X.w) X.A (eval b X.env) (fun u s₂ => wpAny (model X.prog X.w) X.A (g v u) (EP X pins σ Q) X.xe s₂) X.xe s₁) X.xe s := by
  obtain ⟨w, S, r, ok, en, q⟩ := q
  unfold lf wBin at q
  rw [out_bind] at q
  have q' : lf f1 r S (fun d1 S1 => lf f2 r S1 (fun d2 S2 => out (f d1 d2 S2) (Qv G w H Q) (Qx G w H fun c d H' => W c d σ H')) (Qx G w H fun c d H' => W c d σ H')) (Qx G w H fun c d H' => W c d σ H') :=
    out_mono q (fun d1 S1 h => by rw [out_bind] at h; exact h) fun _ _ z => z
  refine binT (R := fun x y H' => ∃ w S d1 d2, Wok G w S H' ∧ RepD G w x d1 ∧ RepD G w y d2 ∧ out (f d1 d2 S) (Qv G w H' Q) (Qx G w H' fun c d H' => W c d σ H')) ha.pe hb.pe I ?_ fun v u s2 x y H2 I2 rx ry q => ho pins s2 σ H2 x y v u Q I2 rx ry q
  exact tM2 ha.mono hb.mono ok en q' fun d1 d2 S' x y w' H' x1 k r1 r2 q => ⟨w', S', d1, d2, k, r1, r2, out_mono q (fun d S z => z.ext x1) fun x S z => z.ext x1⟩
theorem re_binX {op : Operator} {f : P2} (ho : OpX G X W (binaryOp op) f) (ha : RE G X W a f1) (hb : RE G X W b f2) : RE G X W (.BinOp a op b pos) (wBin f f1 f2) :=
  ⟨⟨fun pins s σ H Q I q => wpAny_BinOp (binX ho ha hb I q)⟩, lf_mon _⟩
theorem re_cmpX {op : CmpOp} {f : P2} (ho : OpX G X W (compareOp op) f) (ha : RE G X W a f1) (hb : RE G X W b f2) (hm : behindInMarks op b = false) : RE G X W (.Compare a [op] [b] pos) (wBin f f1 f2) :=
  ⟨⟨fun pins s σ H Q I q => wpAny_Compare1 (binX ho ha hb I q) hm⟩, lf_mon _⟩
/-- a call of an own method of two, below the running body -/
theorem run_two {A : Around} {f : Addr} {fd : FuncData} {ps : List Str} {mf : FD} (C : CxG G X W n) (F : FnG G X.prog X.w X.mg X.base k f fd ps (spF mf)) (hr : Room k A) (hg : A.guards = some []) (hf : A.frames = X.A.frames) (hb : Binds X.K fd ps []) {pins : List (Addr × Obj)} {σ : L2.St} {H : Hp} {s : Shared} {Q : VK} {v u : Value} {x y : V} (I : Inv X pins σ H s) (rx : RelV x v) (ry : RelV y u)
    {w : Wd} {S : Store} {d1 d2 : D} (ok : Wok G w S H) (r1 : RepD G w x d1) (r2 : RepD G w y d2) (q : out (mf [d1, d2] S) (Qv G w H Q) (Qx G w H fun c d H' => W c d σ H')) :
    wpAny (model X.prog X.w) A (call (.ref f) [v, u]) (EP X pins σ Q) X.xe s := by
  have rv : Vals [x, y] [v, u] := .cons rx (.cons ry .nil)
  have sv : spV G (spF mf) [x, y] H Q fun c d H' => W c d σ H' := ⟨w, S, [d1, d2], ok, ⟨r1, r2, trivial⟩, q⟩
  have hl : [v, u].length = ps.length := by
    obtain ⟨w3, S3, es3, _, rd3, q3⟩ := id sv
    rw [← rv.length, rd3.length]
    exact F.len _ _ _ _ q3
  exact run_gA (args := ⟨[v, u], []⟩) C F hr hg hf I (by
    have := hb s [v, u] I.kIn (by simpa using hl)
    simpa using this) rv sv
theorem not_ni {x : V} {v : Value} {Q : Value → Shared → Prop} {s : Shared} (r : RelV x v) (h : Q v s) : PySem.W.CmpBack Q v s := by
  cases x <;> first | (cases r; exact h) | (obtain ⟨_, rfl⟩ := r; exact h)
/-- op of two objects of the class c, by its own method -/
def dOp2 (c : String) (mf : FD) (d1 d2 : D) (S : Store) : O D := match objOf S d1, objOf S d2 with
  | some (c1, _, _), some (c2, _, _) => if c1 = c ∧ c2 = c then mf [d1, d2] S else .bad
  | _, _ => .bad
theorem ox_op {op : Operator} {c : String} {mf : FD} {Cc f : Addr} {fd : FuncData} {ps : List Str} (C : CxG G X W n) (hc : G.cls c = some Cc) (hi : G.isE c = false) (hs : PySem.W.selfFirst G.K Cc = true) (me : Meth G.K Cc (PySem.dunder op.info.2) f) (F : FnG G X.prog X.w X.mg X.base k f fd ps (spF mf)) (hk : k ≤ n) (hb : Binds G.K fd ps []) :
    OpX G X W (binaryOp op) (dOp2 c mf) := by
  intro pins s σ H x y v u Q I rx ry ⟨w, S, d1, d2, ok, r1, r2, q⟩
  rw [← C.hK] at hs me hb
  unfold dOp2 at q
  split at q
  · rename_i c1 n1 v1 c2 n2 v2 o1 o2
    split at q
    · rename_i hcc
      obtain ⟨rfl, h2⟩ := hcc
      subst h2
      obtain ⟨p1, C2, fs, e1, e2, e3, _, _⟩ := objOf_at ok r1 o1
      obtain ⟨p2, C3, gs, e4, e5, e6, _, _⟩ := objOf_at ok r2 o2
      subst e1; subst e4
      rw [hc] at e2 e5
      cases e2; cases e5
      cases rx; cases ry
      rcases e3 with ⟨_, dx, e3⟩ | ⟨e0, _⟩
      · rcases e6 with ⟨_, dy, e6⟩ | ⟨e0, _⟩
        · obtain ⟨mA, J, _⟩ := ins_get I.hok e3
          obtain ⟨mB, J', _⟩ := ins_get I.hok e6
          obtain ⟨od, J, _⟩ := J.look
          obtain ⟨od', J', _⟩ := J'.look
          obtain ⟨mm, hF⟩ := I.fr
          refine PySem.W.binop_K hF I.ok.mod.kin J J'.type hs me.at_ me.fn ?_
          exact wpAny_mono (run_two (x := .ref p1) (y := .ref p2) (A := X.A) C F (C.rm.mono hk) C.gd rfl hb I rfl rfl ok r1 r2 q) (fun v s' z => (let ⟨_, _, _, r, _⟩ := z; not_ni r z)) fun _ _ z => z
        · rw [hi] at e0; cases e0
      · rw [hi] at e0; cases e0
    · exact q.elim
  · exact q.elim
/-- x in an object of the class c, by its own method -/
def dInO (neg : Bool) (c : String) (mf : FD) (d1 d2 : D) (S : Store) : O D := match objOf S d2 with
  | some (c2, _, _) => if c2 = c then (mf [d2, d1] S).bind (eqOK neg) else .bad
  | _ => .bad
theorem ox_in {c : String} {mf : FD} {Cc f : Addr} {fd : FuncData} {ps : List Str} (C : CxG G X W n) (hc : G.cls c = some Cc) (hi : G.isE c = false) (me : Meth G.K Cc "__contains__" f) (F : FnG G X.prog X.w X.mg X.base k f fd ps (spF mf)) (hk : k ≤ n) (hb : Binds G.K fd ps []) :
    OpX G X W (compareOp .In) (dInO false c mf) := by
  intro pins s σ H x y v u Q I rx ry ⟨w, S, d1, d2, ok, r1, r2, q⟩
  rw [← C.hK] at me hb
  unfold dInO at q
  split at q
  · rename_i c2 n2 v2 o2
    split at q
    · rename_i hcc
      subst hcc
      obtain ⟨p2, C3, gs, e4, e5, e6, _, _⟩ := objOf_at ok r2 o2
      subst e4
      rw [hc] at e5
      cases e5
      cases ry
      rcases e6 with ⟨_, dy, e6⟩ | ⟨e0, _⟩
      · obtain ⟨mB, J', _⟩ := ins_get I.hok e6
        obtain ⟨od', J', _⟩ := J'.look
        obtain ⟨mm, hF⟩ := I.fr
        refine PySem.W.in_K hF I.ok.mod.kin J' me.at_ me.fn ?_
        rw [out_bind] at q
        refine wpAny_mono (run_two (Q := fun v H' => ∃ r, v = .bl r ∧ Q (.bl r) H') (x := .ref p2) (A := X.A) C F (C.rm.mono hk) C.gd rfl hb I rfl rx ok r2 r1 (out_mono q (fun d S1 z v w' H' x1 k1 rd => by
          unfold eqOK at z
          split at z
          · rename_i b
            exact ⟨b, rep_bl.mp rd, z (.bl b) w' H' x1 k1 (rep_bl.mpr rfl)⟩
          · exact z.elim) fun _ _ z => z)) (fun v s' ⟨_, H', I', r, b, e, z⟩ => ?_) fun _ _ z => z
        subst e
        cases r
        exact wpAny_truthy_bool ⟨.bl b, H', I', rfl, z⟩
      · rw [hi] at e0; cases e0
    · exact q.elim
  · exact q.elim
/-- a subscript by an own method -/
def dIxO (c : String) (mf : FD) (d1 d2 : D) (S : Store) : O D := match objOf S d1 with
  | some (c1, _, _) => if c1 = c then mf [d1, d2] S else .bad
  | _ => .bad
theorem re_ixO {c : String} {mf : FD} {Cc f : Addr} {fd : FuncData} {ps : List Str} (C : CxG G X W n) (hc : G.cls c = some Cc) (hi : G.isE c = false) (hq : PySem.W.fnIn G.K f = true) (me : Meth G.K Cc "__getitem__" f) (F : FnG G X.prog X.w X.mg X.base k f fd ps (spF mf)) (hk : k + 1 ≤ n) (hb : Binds G.K fd ps [])
    (ha : RE G X W a f1) (hb' : RE G X W b f2) (hsl : ∀ (x : Addr) (i : Value), subscripted b true (.ref x) i = runValue (.builtin "lifetime.subscript" ⟨[.ref x, i], []⟩) := by intro _ _; with_unfolding_all rfl) : RE G X W (.Subscript a b pos) (wBin (dIxO c mf) f1 f2) := by
  rw [← C.hK] at me hb hq
  suffices ho : OpX G X W (subscriptTail a b) (dIxO c mf) from ⟨⟨fun pins s σ H Q I q => Subscript_ (binX (g := subscriptTail a b) ho ha hb' I q)⟩, lf_mon _⟩
  intro pins s σ H x y v u Q I rx ry ⟨w, S, d1, d2, ok, r1, r2, q⟩
  unfold dIxO at q
  split at q
  · rename_i c2 n2 v2 o2
    split at q
    · rename_i hcc
      subst hcc
      obtain ⟨p2, C3, gs, e4, e5, e6, _, _⟩ := objOf_at ok r1 o2
      subst e4
      rw [hc] at e5
      cases e5
      cases rx
      rcases e6 with ⟨_, dy, e6⟩ | ⟨e0, _⟩
      · obtain ⟨mB, J', _⟩ := ins_get I.hok e6
        obtain ⟨od', J', _⟩ := J'.look
        obtain ⟨mm, hF⟩ := I.fr
        exact PySem.W.sub_K hF I.ok.mod.kin J' me.at_ hq me.fn (run_two (x := .ref p2) (A := X.A.in1) C F ((C.rm.mono hk).in1) C.gd rfl hb I rfl ry ok r1 r2 q) (hsl _ _)
      · rw [hi] at e0; cases e0
    · exact q.elim
  · exact q.elim
/-! ### == of tuples of objects -/
theorem keepW {w : Wd} {S : Store} {H H' : Hp} (k : Wok G w S H) (h : ∀ b o, H b = some o → H' b = some o) : Wok G w S H' ∧ RB.Ext w H w H' := by
  refine ⟨⟨fun b o e => h _ _ (k.sub _ _ e), k.len, k.nd, k.tb.step rfl (Same.refl _) ⟨[], by simp⟩ fun P ps _ e i n => ⟨h _ _ e, i, n⟩, fun n c a h1 h2 => ?_⟩, ⟨Same.refl _, ⟨[], by simp⟩, rfl, fun b o e _ _ => h _ _ e, fun b o _ q => ⟨q, fun z => z⟩, fun b o e => ⟨o, h _ _ e⟩⟩⟩
  have z := k.cells n c a h1 h2
  obtain ⟨o, e⟩ := z.there
  exact z.grow (Same.refl _) (fun z => z) (by rw [e]; exact h _ _ e)
/-- two objects of the class c, equal by the own == (which changes nothing) -/
def eqOne (c : String) (mf : FD) : P → P → Bool
  | .obj c1 n1 v1, .obj c2 n2 v2 => decide (c1 = c) && (decide (c2 = c) && (match mf [.p (.obj c1 n1 v1), .p (.obj c2 n2 v2)] [] with | .ok (.p (.bl true)) _ => true | _ => false))
  | _, _ => false
def eqAll (c : String) (mf : FD) : List P → List P → Bool
  | [], [] => true
  | x :: xs, y :: ys => eqOne c mf x y && eqAll c mf xs ys
  | _, _ => false
theorem eqAll_get {c : String} {mf : FD} : ∀ {xs ys : List P}, eqAll c mf xs ys = true → xs.length = ys.length ∧ ∀ (i : Nat) x y, xs[i]? = some x → ys[i]? = some y → eqOne c mf x y = true
  | [], [], _ => ⟨rfl, fun i x y h => by simp at h⟩
  | x :: xs, y :: ys, h => by
    obtain ⟨h1, h2⟩ := Bool.and_eq_true_iff.mp h
    obtain ⟨h3, h4⟩ := eqAll_get h2
    refine ⟨by simp [h3], fun i a b e1 e2 => ?_⟩
    cases i with
    | zero => simp at e1 e2; subst e1; subst e2; exact h1
    | succ i => exact h4 i a b (by simpa using e1) (by simpa using e2)
  | [], _ :: _, h => by simp [eqAll] at h
  | _ :: _, [], h => by simp [eqAll] at h
def dEqT (c : String) (mf : FD) (d1 d2 : D) (S : Store) : O D := match d1, d2 with
  | .p (.tup xs), .p (.tup ys) => chk (eqAll c mf xs ys) (.p (.bl true)) S
  | _, _ => .bad
/-- == inside a builtin -/
theorem eqOne_run {c : String} {mf : FD} (h0 : G.tabs = [] ∧ G.I0 = (fun _ => none) ∧ G.as0 = []) (C : CxG G X W n) (hc : EqC G X n c mf) {pins : List (Addr × Obj)} {σ : L2.St} {H : Hp} {s : Shared} {v u : Value} {x y : V} {p q : P} {I0 : Hp} (I : Inv X pins σ H s) (rx : RelV x v) (ry : RelV y u) (sm : Same I0 H) (r1 : Rep G I0 x p) (r2 : Rep G I0 y q) (e : eqOne c mf p q = true) :
    wpAny (model X.prog X.w) X.A.in1 (eqBool v u) (fun r s' => r = true ∧ ∃ H', Inv X pins σ H' s' ∧ L2.Ext H H') X.xe s := by
  unfold eqOne at e
  split at e
  · rename_i c1 n1 v1 c2 n2 v2
    obtain ⟨h1, e⟩ := Bool.and_eq_true_iff.mp e
    obtain ⟨h2, e⟩ := Bool.and_eq_true_iff.mp e
    have h1 := of_decide_eq_true h1
    have h2 := of_decide_eq_true h2
    subst h1; subst h2
    obtain ⟨C1, g, fd, ps, k, g1, g2, g3, g4, g5, g6, g7⟩ := hc.run
    have ok : Wok G ⟨I0, [], []⟩ [] H := ⟨sm, rfl, List.nodup_nil, ⟨by rw [h0.1]; rfl, (fun p hp => by rw [h0.1] at hp; cases hp), by rw [h0.2.1]; exact fun b o z => (nomatch z), ⟨[], by rw [h0.2.2]; rfl⟩⟩, fun n c a h => by simp at h⟩
    obtain ⟨p1, C2, fs, e1, e2, e3, _, _⟩ := objOf_at ok (d := .p (.obj c2 n1 v1)) r1 rfl
    obtain ⟨p2, C3, gs, e4, e5, e6, _, _⟩ := objOf_at ok (d := .p (.obj c2 n2 v2)) r2 rfl
    subst e1; subst e4
    rw [g1] at e2 e5
    cases e2; cases e5
    cases rx; cases ry
    rcases e3 with ⟨_, dx, e3⟩ | ⟨e0, _⟩
    · rcases e6 with ⟨_, dy, e6⟩ | ⟨e0, _⟩
      · by_cases hab : p1 = p2
        · subst hab
          exact SeqAt.EqAt.same (A := X.A.in1) (s := s) (.ref p1) X.prog X.w X.xe _ ⟨rfl, H, I, L2.Ext.rfl'⟩
        · refine GQ.eqBool_refG hab ?_
          obtain ⟨mA, J, _⟩ := ins_get I.hok e3
          obtain ⟨mB, J', _⟩ := ins_get I.hok e6
          obtain ⟨od, J, _⟩ := J.look
          obtain ⟨od', J', _⟩ := J'.look
          obtain ⟨mm, hF⟩ := I.fr
          refine PySem.W.cmp_K (op := .Eq) (tb := .ref C1) ((C.rm.mono g4).in1).units0 hF I.ok.mod.kin J J'.type (by simp [PySem.W.notFirst]) g2.at_ g2.fn ?_
          refine wpAny_mono (run_two (Q := fun v H' => v = .bl true ∧ L2.Ext H H') (x := .ref p1) (y := .ref p2) (d1 := .p (.obj c2 n1 v1)) (d2 := .p (.obj c2 n2 v2)) (A := X.A.in1) C g3 ((C.rm.mono g4).in1) C.gd rfl g5 I rfl rfl ok r1 r2 ?_) (fun v s' ⟨_, H', I', r, e, z⟩ => ?_) fun _ _ z => z
          · split at e
            · rename_i S' hm
              rw [hm]
              intro v w' H' x1 k1 rd
              exact ⟨rep_bl.mp rd, fun b o h => x1.frame b o h (by simp) (by simp)⟩
            · simp at e
          · subst e
            cases r
            exact ⟨true, rfl, rfl, H', I', z⟩
      · rw [hc.isE] at e0; cases e0
    · rw [hc.isE] at e0; cases e0
  · cases e
theorem ox_eqT {c : String} {mf : FD} (h0 : G.tabs = [] ∧ G.I0 = (fun _ => none) ∧ G.as0 = []) (C : CxG G X W n) (hc : EqC G X n c mf) : OpX G X W (compareOp .Eq) (dEqT c mf) := by
  intro pins s σ H x y v u Q I rx ry ⟨w, S, d1, d2, ok, r1, r2, q⟩
  unfold dEqT at q
  split at q
  · rename_i xs ys
    obtain ⟨he, q⟩ := out_chk q
    obtain ⟨hl, hg⟩ := eqAll_get he
    simp only [RepD, Rep] at r1 r2
    obtain ⟨p1, vs, rfl, t1, s1⟩ := r1
    obtain ⟨p2, us, rfl, t2, s2⟩ := r2
    cases rx
    cases ry
    have t1' := Same.tup ok.sub t1
    have t2' := Same.tup ok.sub t2
    rw [← C.hK] at t1' t2'
    obtain ⟨its, z1, e, m1⟩ := I.tuple t1'
    obtain ⟨its2, z2, e2, m2⟩ := I.tuple t2'
    have hsz : its.toArray.size = its2.toArray.size := by rw [List.size_toArray, List.size_toArray, ← z1.length, ← z2.length, s1.length, s2.length]; exact hl
    show wpAny (model X.prog X.w) X.A (richCompare .Eq (.ref p1) (.ref p2)) (EP X pins σ Q) X.xe s
    refine GQ.rc_tupG hsz C.rm.units0 (fun _ s' => LoopI X pins σ H s') e e2 (fun i h1 h2 s' lq => ?_) (fun s' lq => ?_) ⟨H, I, L2.Ext.rfl'⟩
    · obtain ⟨H1, I1, e1⟩ := lq
      have k1 : i < vs.length := by rw [z1.length]; simpa using h1
      have k2 : i < us.length := by rw [z2.length]; simpa using h2
      have j1 : i < its.length := by simpa using h1
      have j2 : i < its2.length := by simpa using h2
      obtain ⟨u1, hu1, ru1⟩ := z1.get (List.getElem?_eq_getElem k1)
      obtain ⟨u2, hu2, ru2⟩ := z2.get (List.getElem?_eq_getElem k2)
      rw [List.getElem?_eq_getElem j1] at hu1
      rw [List.getElem?_eq_getElem j2] at hu2
      obtain ⟨a1, ha1, ra1⟩ := s1.get' (List.getElem?_eq_getElem k1)
      obtain ⟨a2, ha2, ra2⟩ := s2.get' (List.getElem?_eq_getElem k2)
      have b1 : its.toArray[i] = u1 := by simpa using Option.some.inj hu1
      have b2 : its2.toArray[i] = u2 := by simpa using Option.some.inj hu2
      rw [b1, b2]
      refine wpAny_mono (eqOne_run h0 C hc I1 ru1 ru2 (fun b o h => e1 _ _ (ok.sub _ _ h)) ra1 ra2 (hg i _ _ ha1 ha2)) (fun r s2 ⟨hr, H2, I2, e3⟩ => ⟨hr, H2, I2, e1.trans e3⟩) fun _ _ z => z
    · obtain ⟨H1, I1, e1⟩ := lq
      obtain ⟨k1, x1⟩ := keepW ok e1
      exact ⟨.bl true, H1, I1, rfl, q _ w H1 x1 k1 (rep_bl.mpr rfl)⟩
  · exact q.elim
/-! ### isinstance, for errors too -/
theorem bo_ValueError : bootBuiltins (Str.ofString "ValueError") = some (.type "ValueError") := by decide +kernel
theorem bo_IndexError : bootBuiltins (Str.ofString "IndexError") = some (.type "IndexError") := by decide +kernel
theorem bo_LookupError : bootBuiltins (Str.ofString "LookupError") = some (.type "LookupError") := by decide +kernel
theorem bo_OverflowError : bootBuiltins (Str.ofString "OverflowError") = some (.type "OverflowError") := by decide +kernel
theorem bo_RuntimeError : bootBuiltins (Str.ofString "RuntimeError") = some (.type "RuntimeError") := by decide +kernel
theorem bo_TypeError : bootBuiltins (Str.ofString "TypeError") = some (.type "TypeError") := by decide +kernel
theorem bo_KeyError : bootBuiltins (Str.ofString "KeyError") = some (.type "KeyError") := by decide +kernel
theorem isT_mk2 {K : PySem.W.Frag} {ts : List String} {u : Value} {t : String → Bool} (hown : ∀ c ∈ ts, ∀ C, G.cls c = some C → iscB K C = true ∧ ((G.isE c = false ∧ Cls K C) ∨ G.isE c = true ∧ xfB K C = true) ∧ kitB K (.ref C) u (t c) = true) (hb : bltB K u t = true) : IsT G K ts u t := by
  refine ⟨fun c m C h => ?_, fun c _ m => ?_⟩
  · obtain ⟨h1, h2, h4⟩ := hown c m C h
    refine ⟨iscB_ok h1, fun e => ?_, fun e => ?_, kitB_ok h4⟩
    · rcases h2 with ⟨h2, _⟩ | ⟨_, h3⟩
      · rw [h2] at e; cases e
      · exact xfB_ok h3
    · rcases h2 with ⟨_, h3⟩ | ⟨h2, _⟩
      · exact h3
      · rw [h2] at e; cases e
  · exact kitB_ok (List.all_eq_true.mp hb c m)
end
end RB.F
/-! More words: t[::-1] of a tuple, o.m(k=v). -/
namespace HT
open PySem PySem.Spec PyProof.Rows
section
variable {prog : Program} {w : World} {A : Around} {E : Value → Shared → Prop} {s : Shared}
theorem sliceApplied_rev {sl : Addr} {vl vu vs : Value} {n : Nat} {Q : Int × Int × Nat → Shared → Prop} (hs : s.heap.IsSliceOf sl vl vu vs) (pl : IsPart vl none) (pu : IsPart vu none) (ps : IsPart vs (some (-1)))
    (h : Q ((n : Int) - 1, -1, n) s) : wpAny (model prog w) A (Builtin.Slice.sliceApplied (.ref sl) (pure (n : Int))) Q E s := by
  obtain ⟨os, hos, hcs, hds⟩ := id hs
  unfold Builtin.Slice.sliceApplied Builtin.Slice.sliceFields
  refine wpAny_bind (wpAny_bind (wpAny_field hos hds (x := vl) rfl (wpAny_bind (wpAny_field hos hds (x := vu) rfl (wpAny_bind (wpAny_field hos hds (x := vs) rfl (wpAny_pure ?_)))))))
  refine wpAny_bind (slicePart_ ps ?_)
  show wpAny _ _ (if ((-1 : Int) == 0) = true then _ else _) _ _ s
  rw [if_neg (by decide)]
  refine wpAny_bind (slicePart_ pl (wpAny_bind (slicePart_ pu (wpAny_bind (wpAny_pure ?_)))))
  have e1 : Builtin.Slice.sliceAdjust none none (-1) (n : Int) = ((n : Int) - 1, -1) := rfl
  have e2 : Builtin.Slice.slicePlaces ((n : Int) - 1) (-1) (-1) = n := by
    unfold Builtin.Slice.slicePlaces
    have h1 : ¬ ((-1 : Int) > 0) := by decide
    have h2 : (- -1 : Int) = 1 := by decide
    simp only [h1, if_false, h2, Int.ediv_one]
    split <;> omega
  show wpAny _ _ (match Builtin.Slice.sliceAdjust none none (-1) (n : Int) with | (lo, hi) => pure (lo, (-1 : Int), Builtin.Slice.slicePlaces lo hi (-1))) _ _ s
  rw [e1]
  show wpAny _ _ (pure ((n : Int) - 1, (-1 : Int), Builtin.Slice.slicePlaces ((n : Int) - 1) (-1) (-1))) _ _ s
  rw [e2]
  exact wpAny_pure h
theorem fm_congr {α β : Type} {f g : α → Option β} : ∀ {l : List α}, (∀ x ∈ l, f x = g x) → l.filterMap f = l.filterMap g
  | [], _ => rfl
  | x :: l, h => by
    rw [List.filterMap_cons, List.filterMap_cons, h x (List.mem_cons_self ..), fm_congr fun y m => h y (List.mem_cons_of_mem _ m)]
theorem pick_rev (xs : Array Value) : ((List.range xs.size).filterMap fun (m : Nat) => xs[((xs.size : Int) - 1 + (m : Int) * (-1)).toNat]?).toArray = xs.toList.reverse.toArray := by
  have e : ((List.range xs.size).filterMap fun (m : Nat) => xs[((xs.size : Int) - 1 + (m : Int) * (-1)).toNat]?) = ((List.range xs.size).map fun k => xs.size - 1 - k).filterMap (xs[·]?) := by
    rw [List.filterMap_map]
    refine fm_congr fun m hm => ?_
    have : m < xs.size := List.mem_range.mp hm
    show xs[((xs.size : Int) - 1 + (m : Int) * (-1)).toNat]? = xs[xs.size - 1 - m]?
    congr 1
    omega
  rw [e, PySem.W.krv_range, List.filterMap_reverse, PySem.W.krv_all]
theorem getItem_tuple_rev {t sl : Addr} {items : Array Value} {vl vu vs : Value} {Q : Value → Shared → Prop} (ht : IsTup s.heap t items) (hs : s.heap.IsSliceOf sl vl vu vs) (pl : IsPart vl none) (pu : IsPart vu none) (ps : IsPart vs (some (-1)))
    (h : Q (.ref s.heap.objs.size) { s with heap := s.heap.push { cls := .type "tuple", data := .seq items.toList.reverse.toArray } })
    (hsz : items.size ≤ sizeLine) : wpAny (model prog w) A (getItem (.ref t) (.ref sl)) Q E s := by
  have htake : sizeOk (.seq items.toList.reverse.toArray) := by
    show items.toList.reverse.toArray.size ≤ sizeLine
    rw [List.size_toArray, List.length_reverse, Array.length_toList]
    exact hsz
  obtain ⟨os, hos, hcs, hds⟩ := id hs
  have hTs : s.TypeIs (.ref sl) "slice" := ⟨os, hos, hcs⟩
  unfold getItem
  try with_reducible refine wpAny_holding ?_
  first | refine wpAny_bind (wpAny_pure ?_) | skip
  refine wpAny_bind (wpAny_sequenceKey ht.typeIs (by decide) ?_)
  refine wpAny_bind (wpAny_callSpecial?_slot (name := Str.ofString "__getitem__") ht.typeIs PyProof.Rows.slot_tuple_getitem
    (wpAny_call_entry PyProof.Rows.slot_tuple_getitem ht.typeIs entry_tuple_getitem ?_ (args_tuple_getitem _ _)))
  show wpAny _ _ (Builtin.Tuple.tupleItemsOf (.ref t) >>= _) _ _ s
  refine wpAny_bind (tupleItemsOf_ ht ?_)
  refine wpAny_bind (wpAny_typeOf hTs ?_)
  rw [if_pos (by decide)]
  refine wpAny_bind (sliceApplied_rev hs pl pu ps ?_)
  have hno : ¬ ((((items.size : Int) - 1) == 0 && (-1 : Int) == 1 && items.size == items.size) = true) := by
    intro q
    rw [Bool.and_eq_true, Bool.and_eq_true] at q
    exact absurd q.1.2 (by decide)
  show wpAny _ _ (if (((items.size : Int) - 1) == 0 && (-1 : Int) == 1 && items.size == items.size) = true then _ else _) _ _ s
  rw [if_neg hno, pick_rev]
  first
    | exact wpAny_bind (m := Builtin.Tuple.tupleExact _) (wpAny_newObj_type (wpAny_pure ⟨_, rfl, wpAny_pure h⟩) htake)
    | exact wpAny_bind (m := Builtin.Tuple.tupleExact _) (wpAny_newObj_type (wpAny_bind (wpAny_pure (wpAny_pure ⟨_, rfl, wpAny_pure h⟩))) htake)
    | exact wpAny_bind (wpAny_bind (m := Builtin.Tuple.tupleExact _) (wpAny_newObj_type (wpAny_pure (wpAny_pure ⟨_, rfl, wpAny_pure h⟩)) htake))
    | exact wpAny_bind (wpAny_bind (m := Builtin.Tuple.tupleExact _) (wpAny_newObj_type (wpAny_pure ⟨_, rfl, wpAny_pure h⟩) htake))
end
end HT
namespace RB.F
open PySem PySem.Spec PyProof.Rows L2 RB
section
variable {X : Cx}
def tRevT (K : PySem.W.Frag) (te : TE) : TE := fun σ H Q => te σ H fun x H1 => ∃ a xs, x = .ref a ∧ SqT K H1 a xs ∧ ∀ p, H1 p = none → Q (.ref p) (upd H1 p (.tup xs.reverse))
theorem pe_revT {e : Expr} {te : TE} {k : Nat} {p1 p2 p3 pos : Pos} (he : PE X e te) : PE X (.Subscript e (.Slice none none (some (.UnaryOp .USub (.Constant (.int 1) k p1) p2)) p3) pos) (tRevT X.K te) := by
  refine ⟨fun pins s σ H Q I h => ?_⟩
  refine Subscript_ (thn (he.run pins s σ H _ I h) fun v s1 ⟨x, H1, I1, r1, q1⟩ => ?_)
  obtain ⟨a, xs, ex, hx, q⟩ := q1
  subst ex
  cases r1
  have hst : PO X (some (.UnaryOp .USub (.Constant (.int 1) k p1) p2)) (tPart (tUn (rU fun i => .int (-i)) (tC (.int 1)))) := po_some (pe_un un_neg pe_int)
  refine wpAny_Slice (thn (po_none.run pins s1 σ H1 (fun o H2 => o = none ∧ H2 = H1) I1 ⟨rfl, rfl⟩) fun vl s2 ⟨l, H2, I2, pl, el, e2⟩ => ?_)
  subst el e2
  refine thn (po_none.run pins s2 σ H2 (fun o H3 => o = none ∧ H3 = H2) I2 ⟨rfl, rfl⟩) fun vu s3 ⟨u, H3, I3, pu, eu, e3⟩ => ?_
  subst eu e3
  refine thn (hst.run pins s3 σ H3 (fun o H4 => o = some (-1) ∧ H4 = H3) I3 ⟨1, rfl, -1, rfl, rfl, rfl⟩) fun vs s4 ⟨o, H4, I4, ps, eo, e4⟩ => ?_
  subst eo e4
  have I5 : Inv X pins σ H4 { s4 with heap := s4.heap.push { cls := .type "slice", data := .fields #[vl, vu, vs] } } := I4.kept (t' := s4.toks) fun b ob q => Heap.get?_push_of_some _ q
  obtain ⟨its, r, ht, hz⟩ := I5.tuple hx
  have hlen := r.length
  show wpAny (model X.prog X.w) X.A (subscriptTail e (.Slice none none (some (.UnaryOp .USub (.Constant (.int 1) k p1) p2)) p3) (.ref a) (.ref s4.heap.objs.size)) (EP X pins σ Q) X.xe { s4 with heap := s4.heap.push { cls := .type "slice", data := .fields #[vl, vu, vs] } }
  refine tail_any (ops := [.ref a, .ref s4.heap.objs.size]) ht.typeIs (PyProof.Rows.slot_tuple_getitem.lookup) ?_ (by with_unfolding_all rfl)
  refine HT.getItem_tuple_rev ht (Heap.IsSliceOf.new _ vl vu vs) pl pu ps ?_ (by rw [List.size_toArray]; omega)
  refine ⟨.ref _, _, I5.laid (t' := s4.toks) (o := .tup xs.reverse) (fun b ob q => Heap.get?_push_of_some _ q) (Nat.le_refl _) ?_, rfl, q _ (I5.hok.fresh (Nat.le_refl _))⟩
  exact ⟨by rw [List.length_reverse]; exact hz, _, r.reverse, IsTup.new _ _⟩
end
section
variable {G : Glob} {X : Cx} {W : WX} {e : Expr} {f : FE} {r : Rho} {S : Store}
def revT (d : D) (S1 : Store) : O D := match d with
  | .p (.tup ds) => .ok (.p (.tup ds.reverse)) S1
  | _ => .bad
def wRevT (f : FE) (r : Rho) (S : Store) : O D := (f r S).bind revT
theorem re_revT {k : Nat} {p1 p2 p3 pos : Pos} (hK : X.K = G.K) (he : RE G X W e f) : RE G X W (.Subscript e (.Slice none none (some (.UnaryOp .USub (.Constant (.int 1) k p1) p2)) p3) pos) (wRevT f) := by
  refine ⟨PE.imp (pe_revT he.pe) fun σ H Q ⟨w, S, ρ, ok, en, q⟩ => ?_, lf_mon _⟩
  unfold lf wRevT at q
  rw [out_bind] at q
  refine tM.bind (lf_mon f) ok en q (fun _ _ _ z => z) fun d S' v w' H' x k r1 q => ?_
  unfold revT at q
  split at q
  · rename_i ds
    obtain ⟨a, vs, rfl, h1, h2⟩ := rep_tup.mp r1
    refine ⟨a, vs, rfl, by rw [hK]; exact Same.tup k.sub h1, fun p hp => ?_⟩
    exact new_tup k (Qv.ext x q) (RB.Reps.reverse h2) hp
  · exact q.elim
end
/-! ### o.m(k=v, ..) -/
section
variable {G : Glob} {X : Cx} {W : WX} {n k : Nat} {o : Expr} {m : Str} {apos pos : Pos} {kws : List Keyword} {c : String} {mf : FD} {gD : List D → List D → List D} {fo : FE} {fk : FA} {ks ps : List Str} {fd : FuncData} {Cc g : Addr}
def methKW (c : String) (m : Str) (mf : FD) (q : Nat) (gD : List D → List D → List D) (fk : FA) (r : Rho) (d : D) (S : Store) : O D := match objOf S d with
  | some (c1, ns, _) => if c1 = c ∧ m ∉ ns then (fk r S).bind fun zs S2 => if zs.length = q then mf (gD [d] zs) S2 else .bad else .bad
  | none => .bad
def wMethK (c : String) (m : Str) (mf : FD) (q : Nat) (gD : List D → List D → List D) (fo : FE) (fk : FA) (r : Rho) (S : Store) : O D := (fo r S).bind (methKW c m mf q gD fk r)
theorem re_methK {pl : Sem Bool} (C : CxG G X W n) (hc : G.cls c = some Cc) (hi : G.isE c = false) (cl : Cls G.K Cc) (me : Meth G.K Cc m g) (F : FnG G X.prog X.w X.mg X.base k g fd ps (spF mf)) (hk : k ≤ n) (hb : Bd G G.K fd ps 1 ks gD) (ho : RE G X W o fo) (hkw : RK G X W kws fk)
    (hall : (backToKw pos (keywordEach kws X.env)).all (·.1.isSome) = true := by rfl) (hks : (backToKw pos (keywordEach kws X.env)).filterMap (·.1) = ks := by rfl)
    (hpl : ((backTo pos (starEach [] X.env)).any (·.1) || (backToKw pos (keywordEach kws X.env)).any (·.1.isNone)) = false := by rfl)
    (hev : eval (.Call (.Attribute o m apos) [] kws pos) X.env = (do
      let ov ← eval o X.env
      standAt apos.atName
      let (f, first) ← holding [ov] (getMethod ov m pl)
      callWith pos f first (backTo pos (starEach [] X.env)) (backToKw pos (keywordEach kws X.env))) := by rfl) : RE G X W (.Call (.Attribute o m apos) [] kws pos) (wMethK c m mf ks.length gD fo fk) := by
  rw [← C.hK] at cl me hb
  obtain ⟨gg, gV, hb, hr⟩ := hb
  refine ⟨⟨fun pins s σ H Q J ⟨w, S, r, ok, en, q⟩ => ?_⟩, lf_mon _⟩
  unfold lf wMethK at q
  rw [out_bind] at q
  have h1 : tM G W (lf fo) σ H fun x H1 => ∃ (a dx : Addr) (fs : List (Str × V)), x = .ref a ∧ H1 a = some (.ins Cc dx fs) ∧ fs.lookup m = none ∧
      tMa G W (lf fk) σ H1 fun zs H2 => spV G (spF mf) (gV [.ref a] zs) H2 Q (fun c d H' => W c d σ H') ∧ zs.length = ks.length := by
    refine tM.bind ho.mono ok en q (fun _ _ _ z => z) fun d S1 x w1 H1 x1 k1 r1 z => ?_
    unfold methKW at z
    split at z
    · rename_i c1 ns vs hz
      split at z
      · rename_i hcc
        obtain ⟨rfl, z1⟩ := hcc
        obtain ⟨a, Ca, fs, e1, e2, e3, e4, _⟩ := objOf_at k1 r1 hz
        subst e1
        rw [hc] at e2
        cases e2
        rcases e3 with ⟨_, dx, e3⟩ | ⟨e0, _⟩
        · have hl : fs.lookup m = none := by
            rw [List.lookup_eq_none_iff]
            intro y hy
            have : y.1 ∈ ns := by
              rw [← e4]
              exact List.mem_map.mpr ⟨y, hy, rfl⟩
            have ne : m ≠ y.1 := fun e => z1 (by rw [e]; exact this)
            simpa using ne
          refine ⟨a, dx, fs, rfl, e3, hl, w1, S1, r, k1, en.mono x1, ?_⟩
          rw [out_bind] at z
          refine out_mono z (fun zs S2 z vs w2 H2 x2 k2 r2 => ?_) fun _ _ u => u.ext x1
          split at z
          · rename_i hq
            refine ⟨⟨w2, S2, gD [d] zs, k2, hr w2 _ _ _ _ ⟨r1.mono x2, trivial⟩ r2, out_mono z (fun _ _ u => (u.ext x1).ext x2) fun _ _ u => (u.ext x1).ext x2⟩, by rw [r2.length, hq]⟩
          · exact z.elim
        · rw [hi] at e0; cases e0
      · exact z.elim
    · exact z.elim
  refine PySem.W.methodCall_KW (pl := pl) (thn (ho.pe.run pins s σ H _ J h1) fun u s1 ⟨x, H1, J1, rx, a, dx, fs, ex, ea, l, q1⟩ => ?_) hev
  subst ex
  obtain rfl : u = Value.ref a := rx
  refine getmeth_ok J1 ea cl me l ?_
  refine PySem.W.callWith_KW0 (first := [.ref a]) (h₀ := X.base) J1.ok.mod.kin me.kp hall ?_ hpl
  refine thn (hkw.pk.run pos pins s1 σ H1 _ J1 q1) fun ws s2 ⟨zs, H2, J2, rz, q2, l2⟩ => ⟨J2.kIn, ?_⟩
  rw [hks]
  have q3 : Vals [V.ref a] [Value.ref a] := .cons rfl .nil
  exact run_g (args := ⟨[.ref a], ks.zip ws⟩) C F hk J2 (hb.to s2 [.ref a] ws J2.kIn rfl (by rw [← rz.length, l2])) (hb.rel q3 rz) q2
end
/-! ### keywords for parameters without defaults -/
section
variable {G : Glob} {K : PySem.W.Frag} {x qual : Str} {params : Arguments} {body : List Stmt} {scope : Scope} {kws : List (Str × V)} {f : Addr} {fd : FuncData} {n : Nat} {ks ps : List Str} {gD : List D → List D → List D}
theorem bd_plain (F : FunD G.K x qual params body scope [] kws f fd) (g : List Value → List Value → List Value) (gV : List V → List V → List V) (hrel : ∀ {vs : List V} {us : List Value} {zs : List V} {ws : List Value}, Vals vs us → Vals zs ws → Vals (gV vs zs) (g us ws))
    (hD : ∀ w vs zs ds es, RepDs G w vs ds → RepDs G w zs es → RepDs G w (gV vs zs) (gD ds es))
    (h : ∀ (kV doc pm : Value) (an : Option Addr) (cdv ct : Value) (us ws : List Value), us.length = n → ws.length = ks.length → bindArgs (PySem.W.fnOf x qual params body scope .none kV doc pm an cdv ct) ⟨us, ks.zip ws⟩ = pure (ps.zip (g us ws))) : Bd G G.K fd ps n ks gD := by
  refine ⟨g, gV, ⟨fun s us ws _ h1 h2 => ?_, hrel⟩, hD⟩
  obtain ⟨oc, od, dV, kV, doc, pm, an, cdv, ct, osl, rfl, lk, hcd, hD', hK⟩ := F.ex
  rcases hD' with ⟨_, rfl⟩ | ⟨e, _⟩
  · exact .of_eq (h kV doc pm an cdv ct us ws h1 h2)
  · exact absurd rfl e
end
end RB.F
/-! Texts: str(int), f-strings, text * int. -/
namespace RB
open PySem PySem.Spec PyProof.Rows L2
section
variable {G : Glob} {X : Cx} {W : WX}
def dStr (d : D) (S : Store) (Q : DK) : Prop := match d with
  | .p (.int i) => i.natAbs.log2 < 1920 ∧ Q (.p (.str (toString i))) S
  | _ => False
theorem cl_str : CallL G X (.type "str") (b1 dStr) := by
  refine CallL.mk1 call_str_int (fun x H Q w S d k r q => ?_) (fun d S Q Q' hq q => ?_)
  · unfold dStr at q
    split at q
    · rw [rep_int] at r
      subst r
      exact ⟨_, rfl, q.1, q.2.here k (rep_str.mpr rfl)⟩
    · exact q.elim
  · unfold dStr at q ⊢
    split at q
    · exact ⟨q.1, hq _ _ q.2⟩
    · exact q.elim
/-- a text so many times -/
theorem op_repS : OpR X (binaryOp .Mult) (fun x y H Q => ∃ a i, x = .str a ∧ y = .int i ∧ a.length ≤ 16 ∧ -(2 ^ 63 : Int) ≤ i ∧ i ≤ ((1048576 : Nat) : Int) ∧ Q (.str (Txt.mul a i)) H) := by
  intro pins s σ H x y v u Q I rx ry h
  obtain ⟨a, i, rfl, rfl, h1, h2, h3, q⟩ := h
  obtain ⟨t, rfl⟩ := rx
  obtain ⟨t', rfl⟩ := ry
  exact SB.mul (mulOk_of 16 1048576 (by omega) h3 h2 (by decide) (by decide)) fun t' k => ⟨.str _, H, I.tok _, ⟨_, rfl⟩, q⟩
def dMulS (d1 d2 : D) (S : Store) (Q : DK) : Prop := match d1, d2 with
  | .p (.str a), .p (.int i) => a.length ≤ 16 ∧ -(2 ^ 63 : Int) ≤ i ∧ i ≤ ((1048576 : Nat) : Int) ∧ Q (.p (.str (Txt.mul a i))) S
  | _, _ => False
theorem ol_mulS : OpL G X (binaryOp .Mult) dMulS := by
  refine OpL.mk' op_repS (fun x y H Q w S d1 d2 k r1 r2 h => ?_) (fun d1 d2 S Q Q' hq h => ?_)
  · unfold dMulS at h
    split at h
    · rw [rep_int] at r2
      rw [rep_str] at r1
      exact ⟨_, _, r1, r2, h.1, h.2.1, h.2.2.1, h.2.2.2.here k (rep_str.mpr rfl)⟩
    · exact h.elim
  · unfold dMulS at h ⊢
    split at h
    · exact ⟨h.1, h.2.1, h.2.2.1, hq _ _ h.2.2.2⟩
    · exact h.elim
end
end RB
namespace RB.F
open PySem PySem.Spec PyProof.Rows L2 RB
section
variable {G : Glob} {X : Cx} {W : WX} {e : Expr} {pos : Pos}
def dStr (d : D) (S : Store) : O D := match d with
  | .p (.int i) => chk (decide (i.natAbs.log2 < 1920)) (.p (.str (toString i))) S
  | _ => .bad
theorem cl_str : CallL G X (.type "str") (b1 dStr) := CallL.f1 RB.cl_str fun d S Q E h => by
  unfold dStr at h
  unfold RB.dStr
  split at h
  · exact ⟨of_decide_eq_true (out_chk h).1, (out_chk h).2⟩
  · exact h.elim
def dMulS (d1 d2 : D) (S : Store) : O D := match d1, d2 with
  | .p (.str a), .p (.int i) => chk (decide (a.length ≤ 16) && (decide (-(2 ^ 63 : Int) ≤ i) && decide (i ≤ 1048576))) (.p (.str (Txt.mul a i))) S
  | _, _ => .bad
theorem ol_mulS : OpL G X (binaryOp .Mult) dMulS := ⟨_, RB.ol_mulS, fun d1 d2 S Q E h => by
  unfold dMulS at h
  unfold RB.dMulS
  split at h
  · have q := out_chk h
    simp only [Bool.and_eq_true, decide_eq_true_eq] at q
    exact ⟨q.1.1, q.1.2.1, q.1.2.2, q.2⟩
  · exact h.elim⟩

/-! ### f-strings -/
def dFmt (d : D) (S : Store) : O D := match d with
  | .p (.str y) => chk (decide (y.length ≤ sizeLine)) (.p (.str y)) S
  | .p (.int i) => chk (decide (i.natAbs.log2 < 1920)) (.p (.str (toString i))) S
  | _ => .bad
theorem re_fmt {f : FE} (he : RE G X W e f) : RE G X W (.FormattedValue e (-1) none pos) (wUn dFmt f) := by
  refine ⟨PE.imp (pe_fmt he.pe) fun σ H Q ⟨w, S, r, ok, en, q⟩ => ?_, lf_mon _⟩
  have q : out (wUn dFmt f r S) _ _ := q
  unfold wUn at q
  rw [out_bind] at q
  refine tM.bind he.mono ok en q (fun _ _ _ z => z) fun d S1 x w1 H1 x1 k1 r1 z => ?_
  unfold dFmt at z
  split at z
  · have := out_chk z
    exact .inl ⟨_, rep_str.mp r1, of_decide_eq_true this.1, this.2 _ w1 H1 x1 k1 (rep_str.mpr rfl)⟩
  · have := out_chk z
    exact .inr ⟨_, rep_int.mp r1, of_decide_eq_true this.1, this.2 _ w1 H1 x1 k1 (rep_str.mpr rfl)⟩
  · exact z.elim
inductive RJ (G : Glob) (X : Cx) (W : WX) : List Expr → List FE → Prop where
  | nil : RJ G X W [] []
  | cons {e : Expr} {f : FE} {es : List Expr} {fs : List FE} (h : RE G X W e f) (r : RJ G X W es fs) : RJ G X W (e :: es) (f :: fs)
def wJs : List FE → Str → Rho → Store → O D
  | [], acc, _, S => .ok (.p (.str acc)) S
  | f :: fs, acc, r, S => (f r S).bind fun d S1 => match d with
    | .p (.str y) => match decide ((acc ++ y).length ≤ sizeLine) with
      | true => wJs fs (acc ++ y) r S1
      | false => .bad
    | _ => .bad
def jsC (b : Bool) (fs : List FE) (acc : Str) (r : Rho) (S : Store) : O D := match b with
  | true => wJs fs acc r S
  | false => .bad
def jsK (fs : List FE) (acc : Str) (r : Rho) (d : D) (S : Store) : O D := match d with
  | .p (.str y) => jsC (decide ((acc ++ y).length ≤ sizeLine)) fs (acc ++ y) r S
  | _ => .bad
theorem wJs_n {acc : Str} {r : Rho} {S : Store} : wJs [] acc r S = .ok (.p (.str acc)) S := (rfl)
theorem wJs_e {f : FE} {fs : List FE} {acc : Str} {r : Rho} {S : Store} : wJs (f :: fs) acc r S = (f r S).bind (jsK fs acc r) := (rfl)
theorem jsK_s {fs : List FE} {acc y : Str} {r : Rho} {S : Store} : jsK fs acc r (.p (.str y)) S = jsC (decide ((acc ++ y).length ≤ sizeLine)) fs (acc ++ y) r S := (rfl)
theorem jsC_t {fs : List FE} {acc : Str} {r : Rho} {S : Store} : jsC true fs acc r S = wJs fs acc r S := (rfl)
theorem rj_pj {es : List Expr} {fs : List FE} (h : RJ G X W es fs) : PJ X es (fs.map fun f => tM G W (lf f)) := by
  induction h with
  | nil => exact .nil
  | cons h r ih => exact .cons h.pe ih
theorem rj_js {es : List Expr} {fs : List FE} (h : RJ G X W es fs) {σ : L2.St} {r : Rho} {Q : VK} : ∀ (acc : Str) (w : Wd) (S : Store) (H : Hp), Wok G w S H → EnvOk G w σ r → out (wJs fs acc r S) (Qv G w H Q) (Qx G w H fun c d H' => W c d σ H') →
    tJs (fs.map fun f => tM G W (lf f)) acc σ H fun out H1 => Q (.str out) H1 := by
  induction h with
  | nil =>
    intro acc w S H ok en q
    have q : Qv G w H Q (.p (.str acc)) S := q
    exact q.here ok (rep_str.mpr rfl)
  | @cons e f es fs he rr ih =>
    intro acc w S H ok en q
    have q : out ((f r S).bind _) _ _ := q
    rw [out_bind] at q
    refine tM.bind he.mono ok en q (fun _ _ _ z => z) fun d S1 x w1 H1 x1 k1 r1 z => ?_
    try dsimp only at z
    split at z
    · split at z
      · rename_i y _ hz
        refine ⟨y, rep_str.mp r1, of_decide_eq_true hz, ih (acc ++ y) w1 S1 H1 k1 (en.mono x1) ?_⟩
        exact out_mono z (fun d S z => z.ext x1) fun y S' z => z.ext x1
      · exact z.elim
    · exact z.elim
theorem re_joined {v1 v2 : Expr} {rest : List Expr} {fs : List FE} (h : RJ G X W (v1 :: v2 :: rest) fs) : RE G X W (.JoinedStr (v1 :: v2 :: rest) pos) (wJs fs Str.empty) :=
  ⟨PE.imp (pe_joined (rj_pj h)) fun σ H Q ⟨w, S, r, ok, en, q⟩ => rj_js h Str.empty w S H ok en q, lf_mon _⟩
theorem re_joined1 {f : FE} (h : RE G X W e f) : RE G X W (.JoinedStr [e] pos) f := ⟨pe_joined1 h.pe, h.mono⟩

/-! ### {x:>8} -/
open Builtin Builtin.Float in
theorem fmt_spec {prog : Program} {w : World} {A : Around} {E : Value → Shared → Prop} {s : Shared} {a : Int} {t : Tok} {sp : Str} {f : FormatSpec} {Q : Value → Shared → Prop} (hlt : a.natAbs.log2 < 1920)
    (hp : parseFormatSpec sp.cps.toList "int" 62 = .ok f) (hok : intSpecOk sp = true) (h : ∀ t' k, Q (.str (intSpecTextOf sp a) t') { s with toks := k }) (hsz : sp.length ≤ sizeLine) :
    wpAny (model prog w) A (formatField (.int a t) sp) Q E s := by
  unfold intSpecOk at hok
  rw [hp] at hok
  simp only [Bool.and_eq_true, Bool.not_eq_true'] at hok
  obtain ⟨⟨hne, hasc⟩, hg⟩ := hok
  have htext : intSpecTextOf sp a = intSpecText f a := by unfold intSpecTextOf; rw [hp]
  rw [htext] at h
  have hg' := hg
  unfold intSpecGood at hg
  simp only [Bool.and_eq_true] at hg
  obtain ⟨⟨⟨⟨⟨⟨hty, hpr⟩, hz⟩, hal⟩, hw⟩, hgr⟩, hsg⟩ := hg
  replace hty := beq_iff_eq.mp hty
  replace hpr := Option.isNone_iff_eq_none.mp hpr
  replace hz : f.noNeg0 = false := by simpa using hz
  replace hal : f.alt = false := by simpa using hal
  replace hw : f.width.getD 0 ≤ 100000 := by simpa using hw
  replace hgr := Option.isNone_iff_eq_none.mp hgr
  replace hsg := Option.isNone_iff_eq_none.mp hsg
  have hlt' : a.natAbs < 10 ^ 4300 := by
    by_cases h0 : a.natAbs = 0
    · rw [h0]; exact Nat.pow_pos (by decide)
    · have h2 : a.natAbs < 2 ^ 1920 := (Nat.log2_lt h0).mp hlt
      refine Nat.lt_of_lt_of_le h2 (Nat.le_trans (Nat.pow_le_pow_left (by decide : 2 ≤ 10) 1920) (Nat.pow_le_pow_right (by decide) (by decide)))
  have hdig : (Nat.toDigits 10 a.natAbs).length ≤ 4300 := by
    have e := (Nat.length_repr_le_iff (n := a.natAbs) (by decide : 0 < 4300)).mpr hlt'
    rwa [← String.length_toList, Nat.toList_repr] at e
  have hlen : (intSpecText f a).length ≤ sizeLine := by
    rw [intSpecText_length a hgr hsg, sizeLine_eq]
    clear hlt' h
    split <;> omega
  show wpAny _ _ (holding [.int a t] (pyFormat (.int a t) sp)) Q E s
  refine wpAny_holding ?_
  unfold pyFormat
  refine wpAny_bind (wpAny_mkStr ?_ hsz)
  refine wpAny_bind (m := callSpecial? (.int a t) (Str.ofString "__format__") [.str sp s.toks]) (wpAny_callSpecial?_slot (name := Str.ofString "__format__") (typeIs_int _ a t) PyProof.Rows.slot_int_format ?_)
  refine wpAny_call (codeAny_call_builtin PyProof.Rows.slot_int_format.plain PyProof.Rows.entry_int_format (PyProof.Rows.slot_int_format.check _ _ _ _ _ _ _ _ (typeIs_int _ a t) (PyProof.Rows.args_int_format _ _) ?_))
  unfold Builtin.«int.__format__»
  simp only [selfAndOne, noKeywords, Builtin.Int.intOfSelf, asInt?, asStr?, List.isEmpty_nil, if_true, pure_bind, bind_pure, bind_assoc, hne, hasc, Bool.false_eq_true, if_false,
    show (Value.str sp s.toks == Value.none) = false from rfl]
  refine wpAny_bind (wpAny_typeNameOf (T := "str") (typeIs_str _ _ _) (by decide) fun _ => ?_)
  first | refine wpAny_bind (wpAny_typeNameOfCut_int ?_) | refine wpAny_bind (wpAny_typeNameOf_int ?_)
  simp only [hp, hty]
  rw [if_pos (by decide)]
  show wpAny _ _ (if _ then _ else _) _ _ _
  rw [if_neg (by simp [hpr])]
  show wpAny _ _ (if _ then _ else _) _ _ _
  rw [if_neg (by simp [hz])]
  show wpAny _ _ (if _ then _ else _) _ _ _
  rw [if_neg (by decide)]
  show wpAny _ _ (do let r ← Builtin.overDigitLimit? a; _) _ _ _
  rw [PyProof.Rows.overDigitLimit_small hlt]
  refine wpAny_bind (wpAny_pure ?_)
  show wpAny _ _ (if _ then _ else _) _ _ _
  have hw' : ¬ (f.width.getD 0 > 100000) := by omega
  rw [if_neg (by simpa using hw')]
  show wpAny _ _ (retStr _) _ _ _
  unfold retStr
  refine wpAny_bind (wpAny_mkStr (wpAny_pure ?_) ?hs2)
  case hs2 =>
    simp only [hal, Bool.false_eq_true, if_false, show ((10 : Nat) == 10) = true by decide, if_true]
    conv => lhs; arg 1; whnf
    simp only [intSpecText, intField', hgr, hsg, hal, Bool.false_eq_true, if_false, show ((10 : Nat) == 10) = true by decide, if_true] at hlen ⊢
    exact hlen
  dsimp only
  refine wpAny_bind (wpAny_isInstance (typeIs_str _ _ _) isSubtype_str_str (wpAny_pure ?_))
  simp only [hal, Bool.false_eq_true, if_false, show ((10 : Nat) == 10) = true by decide, if_true]
  conv => arg 1; arg 1; whnf
  have h := h (s.toks + 1) (s.toks + 1 + 1)
  simp only [intSpecText, intField', hgr, hsg, hal, Bool.false_eq_true, if_false, show ((10 : Nat) == 10) = true by decide, if_true] at h ⊢
  exact h
def dFmtS (sp : Str) (d : D) (S : Store) : O D := match d with
  | .p (.int i) => chk (decide (i.natAbs.log2 < 1920)) (.p (.str (intSpecTextOf sp i))) S
  | _ => .bad
open Builtin Builtin.Float in
theorem re_fmtS {f : FE} {sp : Str} {fs : FormatSpec} {j : Nat} {p1 p2 : Pos} (hp : parseFormatSpec sp.cps.toList "int" 62 = .ok fs) (hok : intSpecOk sp = true) (hsz : sp.length ≤ sizeLine) (he : RE G X W e f) :
    RE G X W (.FormattedValue e (-1) (some (.JoinedStr [.Constant (.str sp) j p1] p2)) pos) (wUn (dFmtS sp) f) := by
  refine ⟨⟨fun pins s σ H Q I ⟨w, S, r, ok, en, q⟩ => ?_⟩, lf_mon _⟩
  have q : out (wUn (dFmtS sp) f r S) _ _ := q
  unfold wUn at q
  rw [out_bind] at q
  have h1 : tM G W (lf f) σ H fun x H1 => ∃ i : Int, x = .int i ∧ i.natAbs.log2 < 1920 ∧ Q (.str (intSpecTextOf sp i)) H1 := by
    refine tM.bind he.mono ok en q (fun _ _ _ z => z) fun d S1 x w1 H1 x1 k1 r1 z => ?_
    unfold dFmtS at z
    split at z
    · have := out_chk z
      exact ⟨_, rep_int.mp r1, of_decide_eq_true this.1, this.2 _ w1 H1 x1 k1 (rep_str.mpr rfl)⟩
    · exact z.elim
  refine wpAny_FormattedValue_spec (thn (he.pe.run pins s σ H _ I h1) fun v s1 hv => ?_)
  obtain ⟨x, H1, I1, r1, i, rfl, hi, q1⟩ := hv
  obtain ⟨t, rfl⟩ := r1
  have hc : PE X (.JoinedStr [.Constant (.str sp) j p1] p2) (fun σ H Q => Q (.str sp) H) := pe_joined1 pe_str
  refine thn (hc.run pins s1 σ H1 (fun v H2 => v = .str sp ∧ H2 = H1) I1 ⟨rfl, rfl⟩) fun v2 s2 hv2 => ?_
  obtain ⟨x2, H2, I2, r2, rfl, rfl⟩ := hv2
  obtain ⟨t2, rfl⟩ := r2
  exact ⟨sp, t2, rfl, fmt_spec hi hp hok (fun t' k => ⟨.str _, H2, I2.tok _, ⟨_, rfl⟩, q1⟩) hsz⟩
/-! ### list(range(a, b)) -/
def rgP (a b : Int) : List P := (List.range (b - a).toNat).map fun i => .int (a + (i : Nat))
def rgOkB (a b : Int) : Bool := decide (-(2 ^ 62) ≤ a) && (decide (a < 2 ^ 62) && (decide (-(2 ^ 62) ≤ b) && (decide (b < 2 ^ 62) && decide ((b - a).toNat ≤ 2 ^ 24))))
def lrK2 (d1 d2 : D) (S : Store) : O D := match d1, d2 with
  | .p (.int i), .p (.int j) => chk (rgOkB i j) (.p (.lst (rgP i j))) S
  | _, _ => .bad
def lrK (f2 : FE) (r : Rho) (d1 : D) (S1 : Store) : O D := (f2 r S1).bind (lrK2 d1)
def wListRg (f1 f2 : FE) (r : Rho) (S : Store) : O D := (f1 r S).bind (lrK f2 r)
theorem lrK2_e {i j : Int} {S : Store} : lrK2 (.p (.int i)) (.p (.int j)) S = chk (rgOkB i j) (.p (.lst (rgP i j))) S := (rfl)
theorem re_listRg {a b : Expr} {f1 f2 : FE} {p pos p2 pos2 : Pos} (hc : X.calm = true) (hg : Gl X "list") (hm : X.mg "list" = none) (hg2 : Gl X "range") (hm2 : X.mg "range" = none) (ha : RE G X W a f1) (hb : RE G X W b f2)
    (na : starEach [a, b] X.env = (false, eval a X.env) :: starEach [b] X.env := by rfl) (nb : starEach [b] X.env = (false, eval b X.env) :: starEach [] X.env := by rfl) (nd : ((backTo pos2 (starEach [b] X.env)).any fun x => x.fst) = false := by rfl)
    (nc : starEach [.Call (.Name "range" p2) [a, b] [] pos2] X.env = (false, eval (.Call (.Name "range" p2) [a, b] [] pos2) X.env) :: starEach [] X.env := by rfl) :
    RE G X W (.Call (.Name "list" p) [.Call (.Name "range" p2) [a, b] [] pos2] [] pos) (wListRg f1 f2) := by
  refine ⟨PE.imp (pe_listRg hc hg hm (prg_2 hg2 hm2 ha.pe hb.pe na nb nd) nc) fun σ H Q ⟨w, S, r, ok, en, q⟩ => ?_, lf_mon _⟩
  have q : out (wListRg f1 f2 r S) (Qv G w H Q) (Qx G w H fun c d H' => W c d σ H') := q
  unfold wListRg at q
  rw [out_bind] at q
  refine tM.bind ha.mono ok en q (fun _ _ _ z => z) fun d1 S1 x w1 H1 x1 k1 r1 q1 => ?_
  unfold lrK at q1
  rw [out_bind] at q1
  refine ⟨w1, S1, r, k1, en.mono x1, out_mono q1 (fun d2 S2 q2 y w2 H2 x2 k2 r2 => ?_) fun y S' z => Qx.ext x1 z⟩
  unfold lrK2 at q2
  split at q2
  · rename_i i j
    obtain ⟨h1, h2⟩ := out_chk q2
    unfold rgOkB at h1
    simp only [Bool.and_eq_true, decide_eq_true_eq] at h1
    refine ⟨i, j, rep_int.mp r1, rep_int.mp r2, ⟨h1.1, h1.2.1, h1.2.2.1, h1.2.2.2.1, h1.2.2.2.2⟩, fun p hp => ?_⟩
    refine new_lst k2 (fun v w' H' x k rd => h2 v w' H' ((x1.trans x2).trans x) k rd) ?_ hp
    unfold rgP rgV
    generalize (j - i).toNat = n
    induction n with
    | zero => exact Reps.nil
    | succ n ih =>
      rw [List.range_succ, List.map_append, List.map_append]
      exact ih.append (Reps.cons (by simp only [Rep]) Reps.nil)
  · exact q2.elim
end
end RB.F
/-! x(lambda: e): a lambda without parameters, handed to a def. -/
namespace RB
open PySem PySem.Spec PyProof.Rows L2
/-- the same, seen from inside a def that got the lambda at f in the world I0, as0 -/
def Glob.at (G : Glob) (f : Addr) (I0 : Hp) (as0 : List Addr) : Glob := { G with fa := f, I0 := I0, as0 := as0 }
section
variable {G : Glob} {f : Addr} {I0 I : Hp} {as0 : List Addr}
mutual
theorem rep_at : ∀ {p : P} {v : V}, Rep (G.at f I0 as0) I v p ↔ Rep G I v p
  | .non, _ => by simp only [Rep]
  | .bl _, _ => by simp only [Rep]
  | .int _, _ => by simp only [Rep]
  | .str _, _ => by simp only [Rep]
  | .ty _, _ => by simp only [Rep]
  | .tup ds, _ => by
    simp only [Rep]
    exact ⟨fun ⟨a, vs, e, h, r⟩ => ⟨a, vs, e, h, reps_at.mp r⟩, fun ⟨a, vs, e, h, r⟩ => ⟨a, vs, e, h, reps_at.mpr r⟩⟩
  | .lst ds, _ => by
    simp only [Rep]
    exact ⟨fun ⟨a, vs, e, h, r⟩ => ⟨a, vs, e, h, reps_at.mp r⟩, fun ⟨a, vs, e, h, r⟩ => ⟨a, vs, e, h, reps_at.mpr r⟩⟩
  | .scr ds, _ => by
    simp only [Rep]
    exact ⟨fun ⟨a, vs, e, h, r⟩ => ⟨a, vs, e, h, reps_at.mp r⟩, fun ⟨a, vs, e, h, r⟩ => ⟨a, vs, e, h, reps_at.mpr r⟩⟩
  | .dK ks ds, _ => by
    simp only [Rep]
    exact ⟨fun ⟨a, vs, e, h, q, r⟩ => ⟨a, vs, e, h, q, reps_at.mp r⟩, fun ⟨a, vs, e, h, q, r⟩ => ⟨a, vs, e, h, q, reps_at.mpr r⟩⟩
  | .dT ks ds, _ => by
    simp only [Rep]
    exact ⟨fun ⟨a, vs, e, h, q, r⟩ => ⟨a, vs, e, h, q, reps_at.mp r⟩, fun ⟨a, vs, e, h, q, r⟩ => ⟨a, vs, e, h, q, reps_at.mpr r⟩⟩
  | .obj c ns ds, _ => by
    simp only [Rep]
    exact ⟨fun ⟨a, C, fs, e, h, q, z, r⟩ => ⟨a, C, fs, e, h, q, z, reps_at.mp r⟩, fun ⟨a, C, fs, e, h, q, z, r⟩ => ⟨a, C, fs, e, h, q, z, reps_at.mpr r⟩⟩
theorem reps_at : ∀ {ps : List P} {vs : List V}, Reps (G.at f I0 as0) I vs ps ↔ Reps G I vs ps
  | [], _ => by simp only [Reps]
  | d :: ds, _ => by
    simp only [Reps]
    exact ⟨fun ⟨v, r, e, h, q⟩ => ⟨v, r, e, rep_at.mp h, reps_at.mp q⟩, fun ⟨v, r, e, h, q⟩ => ⟨v, r, e, rep_at.mpr h, reps_at.mpr q⟩⟩
end
theorem repD_at {w : Wd} {v : V} {d : D} (hd : d ≠ .fn) : RepD (G.at f I0 as0) w v d ↔ RepD G w v d := by
  cases d with
  | p p => exact rep_at
  | cell n => exact Iff.rfl
  | fn => exact absurd rfl hd
theorem cellOk_at {H : Hp} {a : Addr} {c : Cell} : CellOk (G.at f I0 as0) I H a c ↔ CellOk G I H a c := by
  cases c with
  | lst => exact ⟨fun ⟨z, vs, e, r⟩ => ⟨z, vs, e, reps_at.mp r⟩, fun ⟨z, vs, e, r⟩ => ⟨z, vs, e, reps_at.mpr r⟩⟩
  | dK => exact ⟨fun ⟨z, vs, e, q, r⟩ => ⟨z, vs, e, q, reps_at.mp r⟩, fun ⟨z, vs, e, q, r⟩ => ⟨z, vs, e, q, reps_at.mpr r⟩⟩
  | obj => exact ⟨fun ⟨z, x, C, dx, fs, g, e, q, r⟩ => ⟨z, x, C, dx, fs, g, e, q, reps_at.mp r⟩, fun ⟨z, x, C, dx, fs, g, e, q, r⟩ => ⟨z, x, C, dx, fs, g, e, q, reps_at.mpr r⟩⟩
  | dead => exact Iff.rfl
theorem wok_at {w : Wd} {S : Store} {H : Hp} (k : Wok G w S H) (un : Same I0 w.I ∧ ∃ t, w.as = as0 ++ t) : Wok (G.at f I0 as0) w S H :=
  ⟨k.sub, k.len, k.nd, ⟨k.tb.ts, k.tb.at_, un⟩, fun n c a h1 h2 => cellOk_at.mpr (k.cells n c a h1 h2)⟩
theorem wok_back {w : Wd} {S : Store} {H : Hp} (k : Wok (G.at f I0 as0) w S H) (un : Same G.I0 w.I ∧ ∃ t, w.as = G.as0 ++ t) : Wok G w S H :=
  ⟨k.sub, k.len, k.nd, ⟨k.tb.ts, k.tb.at_, un⟩, fun n c a h1 h2 => cellOk_at.mp (k.cells n c a h1 h2)⟩
theorem repX_at {w : Wd} {c : Value} {dd : Option Addr} {x : Exc} : RepX (G.at f I0 as0) w c dd x ↔ RepX G w c dd x := by
  unfold RepX
  constructor
  · rintro ⟨h1, h2, h3 | ⟨d, fs, e, h, q, r⟩⟩
    · exact ⟨h1, h2, .inl h3⟩
    · exact ⟨h1, h2, .inr ⟨d, fs, e, h, q, reps_at.mp r⟩⟩
  · rintro ⟨h1, h2, h3 | ⟨d, fs, e, h, q, r⟩⟩
    · exact ⟨h1, h2, .inl h3⟩
    · exact ⟨h1, h2, .inr ⟨d, fs, e, h, q, reps_at.mpr r⟩⟩
end
/-- what holds in a world holds in one above it -/
theorem RepD.above {G : Glob} {w w' : Wd} (sI : Same w.I w'.I) (sA : ∃ t, w'.as = w.as ++ t) : ∀ {d : D} {v : V}, RepD G w v d → RepD G w' v d
  | .p _, _, h => Rep.mono sI h
  | .cell n, _, h => by
    obtain ⟨a, e, q⟩ := h
    obtain ⟨t, ht⟩ := sA
    refine ⟨a, e, ?_⟩
    rw [ht, List.getElem?_append_left (List.getElem?_eq_some_iff.mp q).1]
    exact q
  | .fn, _, h => h
theorem un_trans {I0 I1 I2 : Hp} {a0 a1 a2 : List Addr} (h : Same I0 I1 ∧ ∃ t, a1 = a0 ++ t) (h' : Same I1 I2 ∧ ∃ t, a2 = a1 ++ t) : Same I0 I2 ∧ ∃ t, a2 = a0 ++ t := by
  obtain ⟨t, e⟩ := h.2
  obtain ⟨t', e'⟩ := h'.2
  exact ⟨h.1.trans h'.1, t ++ t', by rw [e', e, List.append_assoc]⟩
section
variable {X : Cx} {pins : List (Addr × Obj)} {σ : L2.St} {H : Hp} {s : Shared}
/-- the lambda is made: what the abstract heap becomes -/
theorem lam_make3 {c P : Addr} {params : Arguments} {body : Expr} {scope : Scope} {pos : Pos} {ps : Array Value} {E : Value → Shared → Prop} {Q : Value → Shared → Prop} (I : Inv X pins σ H s) (TB : LamX.TabB X.base X.mg c P) (hcode : X.env.code = .ref c)
    (hP : H P = some (.tbl ps)) (ht : TriplesOk ps.toList) (ha : ∀ (pos : Pos) (cv : Value), codeAmong pos ps.toList = some cv → ∃ c, cv = .ref c ∧ H c = some (LamX.CodeO c (X.env.qual ++ "<lambda>")))
    (hdef : defaultsOf params X.env = ([], [])) (hfree : ∀ y ∈ scope.names, y.2 = .free → ∃ c, X.env.cells.lookup y.1 = some c)
    (h : ∀ (f c' : Addr) (pm ctv : Value) (H1 : Hp) (s' : Shared), Inv X pins σ H1 s' → ((H1 = H ∧ ∃ pos', codeAmong pos' ps.toList = some (.ref c')) ∨ (H c' = none ∧ H1 = upd (upd H P (.tbl (ps ++ #[rawInt pos.line, rawInt pos.col, .ref c']))) c' (LamX.CodeO c' (X.env.qual ++ "<lambda>")))) →
      s'.heap.get? f = some (PySem.W.kla_obj "<lambda>" (X.env.qual ++ "<lambda>") params body scope (cloFrom X.env.cells scope.names []) pm c' ctv) → H1 f = none → f ∉ frs X.stack → Q (.ref f) s') :
    wpAny (model X.prog X.w) X.A (eval (.Lambda params body scope pos) X.env) Q E s := by
  refine PySem.W.kla_eval hdef ?_
  have bP : s.heap.BuiltinsAt X.mg P := TB.bm.keeps I.bk
  have hP' : s.heap.get? P = some { cls := .none, data := .fields ps } := I.hok P _ hP
  have nofr : ∀ f, s.heap.objs.size ≤ f → f ∉ frs X.stack := fun f hf z => by
    rcases List.mem_cons.mp (I.stkSub _ z) with e | e
    · have h1 := I.lt
      rw [← e] at h1
      exact Nat.lt_irrefl _ (Nat.lt_of_lt_of_le h1 hf)
    · exact I.nofs hf e
  cases hc : codeAmong pos ps.toList with
  | none =>
    refine PySem.W.kla_makeFunction (mg := X.mg) (c := c) (P := P) (ps := ps) (closure_ok hfree) I.ok.glob (I.mod.glob.keeps I.bk) hcode (TB.code.keeps I.bk) hP' ht hc TB.gP bP fun c' ctv h' tk hx hge hlt hrec htb => ?_
    obtain ⟨c2, oc, vs, t, e2, hoc, hd, hv⟩ := hrec
    cases e2
    have hsz : s.heap.objs.size ≤ h'.objs.size := Nat.le_trans hge (Nat.le_of_lt hlt)
    have nC : H c' = none := I.hok.fresh hge
    have I1 := LamX.inv_table (t' := tk) (more := #[rawInt pos.line, rawInt pos.col, .ref c']) (h' := h'.push (PySem.W.kla_obj "<lambda>" (X.env.qual ++ "<lambda>") params body scope (cloFrom X.env.cells scope.names []) ((X.mg "__name__").getD .none) c' ctv)) I hP
      (fun b o hb e => Heap.get?_push_of_some _ (hx b o hb e)) (Heap.get?_push_of_some _ htb) hge ⟨oc, vs, t, Heap.get?_push_of_some _ hoc, hd, hv⟩
    refine h h'.objs.size c' ((X.mg "__name__").getD .none) ctv _ _ I1 (.inr ⟨nC, rfl⟩) (Heap.get?_push_size _ rfl) ?_ (nofr _ hsz)
    have n1 : h'.objs.size ≠ c' := Nat.ne_of_gt hlt
    have n2 : h'.objs.size ≠ P := Nat.ne_of_gt (Nat.lt_of_lt_of_le (Heap.lt_size hP') hsz)
    rw [upd_ne n1, upd_ne n2]
    exact I.hok.fresh hsz
  | some cv =>
    obtain ⟨c', e, hco⟩ := ha pos cv hc
    subst e
    refine PySem.W.kla_makeFunctionHit (mg := X.mg) (c := c) (P := P) (ps := ps) (closure_ok hfree) I.ok.glob (I.mod.glob.keeps I.bk) hcode (TB.code.keeps I.bk) hP' ht hc bP fun ctv h' tk hx hsz => ?_
    have I1 : Inv X pins σ H { s with heap := h'.push (PySem.W.kla_obj "<lambda>" (X.env.qual ++ "<lambda>") params body scope (cloFrom X.env.cells scope.names []) ((X.mg "__name__").getD .none) c' ctv), toks := tk } := I.kept fun b o e => Heap.get?_push_of_some _ (hx b o e)
    exact h h'.objs.size c' ((X.mg "__name__").getD .none) ctv H _ I1 (.inl ⟨rfl, pos, hc⟩) (Heap.get?_push_size _ rfl) (I.hok.fresh hsz) (nofr _ hsz)
end
/-- the world after a lambda is made -/
theorem lam_world {G : Glob} {w : Wd} {S : Store} {H H1 : Hp} {P c' : Addr} {q : Str} {ps : Array Value} {pos : Pos} (k : Wok G w S H) (hm : (P, q) ∈ G.tabs) (hu : ∀ p ∈ G.tabs, p.1 = P → p.2 = q) (hP : H P = some (.tbl ps))
    (h : (H1 = H ∧ ∃ pos', codeAmong pos' ps.toList = some (.ref c')) ∨ (H c' = none ∧ H1 = upd (upd H P (.tbl (ps ++ #[rawInt pos.line, rawInt pos.col, .ref c']))) c' (LamX.CodeO c' q))) :
    ∃ w1, Wok G w1 S H1 ∧ Ext w H w1 H1 ∧ w1.I c' = some (LamX.CodeO c' q) := by
  obtain ⟨⟨ps0, e1, e2, e3⟩, e4, e5⟩ := k.tb.at_ _ hm
  have e1 : H P = some (.tbl ps0) := e1
  rw [hP] at e1
  cases e1
  have mP : P ∈ w.ts := by rw [k.tb.ts]; exact List.mem_map.mpr ⟨_, hm, rfl⟩
  rcases h with ⟨rfl, pos', hc⟩ | ⟨hn, rfl⟩
  · obtain ⟨c, g1, g2⟩ := e3 pos' _ hc
    cases g1
    exact ⟨w, k, Ext.refl _ _, g2⟩
  · have nPc : P ≠ c' := ne_of_none hP hn
    have nI := k.freeI hn
    have sI : Same w.I (upd w.I c' (LamX.CodeO c' q)) := Same.upd _ nI
    have at_ : ∀ b, b ≠ P → b ≠ c' → upd (upd H P (.tbl (ps ++ #[rawInt pos.line, rawInt pos.col, .ref c']))) c' (LamX.CodeO c' q) b = H b := fun b h1 h2 => by rw [upd_ne h2, upd_ne h1]
    have eL : (ps ++ #[rawInt pos.line, rawInt pos.col, .ref c']).toList = ps.toList ++ [rawInt pos.line, rawInt pos.col, .ref c'] := by simp
    refine ⟨⟨upd w.I c' (LamX.CodeO c' q), w.as, w.ts⟩, ⟨fun b u hb => ?_, k.len, k.nd, ⟨k.tb.ts, fun p hp => ?_, k.tb.un.1.trans sI, k.tb.un.2⟩, fun n c a h1 h2 => ?_⟩, ⟨sI, ⟨[], by simp⟩, rfl, fun b u hb _ hts => ?_, fun b u hb hq => ⟨hq, fun z => ?_⟩, fun b u hb => ?_⟩, upd_same⟩
    · have hb : upd w.I c' (LamX.CodeO c' q) b = some u := hb
      by_cases z : b = c'
      · subst z
        rw [upd_same] at hb ⊢
        exact hb
      · rw [upd_ne z] at hb
        have nP : b ≠ P := fun y => by rw [y, e4] at hb; cases hb
        rw [at_ b nP z]
        exact k.sub _ _ hb
    · obtain ⟨⟨ps', a1, a2, a3⟩, a4, a5⟩ := k.tb.at_ p hp
      have npc : p.1 ≠ c' := ne_of_none a1 hn
      refine ⟨?_, by show upd w.I c' _ p.1 = none; rw [upd_ne npc]; exact a4, a5⟩
      by_cases z : p.1 = P
      · rw [hu p hp z, z]
        refine ⟨_, by rw [upd_ne nPc, upd_same], by rw [eL]; exact PySem.TriplesOk_snoc _ _ _ _ e2, fun p' cv hcv => ?_⟩
        rw [eL] at hcv
        rcases LamX.among_app _ e2 hcv with y | y
        · obtain ⟨c0, g1, g2⟩ := e3 p' cv y
          exact ⟨c0, g1, sI _ _ g2⟩
        · exact ⟨c', y, upd_same⟩
      · refine ⟨ps', by rw [at_ _ z npc]; exact a1, a2, fun p' cv hcv => ?_⟩
        obtain ⟨c0, g1, g2⟩ := a3 p' cv hcv
        exact ⟨c0, g1, sI _ _ g2⟩
    · have h2 : w.as[n]? = some a := h2
      have z := k.cells n c a h1 h2
      obtain ⟨o, ho⟩ := z.there
      have na : a ≠ c' := ne_of_none ho hn
      have nP : a ≠ P := fun y => e5 (by show P ∈ w.as; rw [← y]; exact List.mem_of_getElem? h2)
      exact z.grow sI (fun y => by show upd w.I c' _ a = none; rw [upd_ne na]; exact y) (at_ a nP na)
    · have nP : b ≠ P := fun y => hts (by rw [y]; exact mP)
      rw [at_ b nP (ne_of_none hb hn)]
      exact hb
    · show upd w.I c' _ b = none
      rw [upd_ne (ne_of_none hb hn)]
      exact z
    · by_cases z : b = P
      · subst z
        exact ⟨_, by rw [upd_ne nPc, upd_same]⟩
      · exact ⟨u, by rw [at_ b z (ne_of_none hb hn)]; exact hb⟩
end RB
/-! x(lambda: e): the rules. -/
namespace RB.F
open PySem PySem.Spec PyProof.Rows L2 RB
def noFn (o : O D) : O D := match o with
  | .ok .fn _ => .bad
  | o => o
theorem out_noFn {o : O D} {Q : DK} {E : EK} (h : out (noFn o) Q E) : out o (fun d S => d ≠ .fn ∧ Q d S) E := by
  cases o with
  | ok d S =>
    cases d with
    | fn => exact h.elim
    | p p => exact ⟨(fun z => by cases z), h⟩
    | cell n => exact ⟨(fun z => by cases z), h⟩
  | ex x S => exact h
  | bad => exact h
/-- a(), a the name that holds the lambda -/
def wAct (i : Nat) (act : Store → O D) (r : Rho) (S : Store) : O D := match r[i]? with
  | some (some .fn) => noFn (act S)
  | _ => .bad
section
variable {G : Glob} {X : Cx} {W : WX} {pins : List (Addr × Obj)} {σ : L2.St} {H : Hp} {s : Shared}
theorem re_act {Ng : List Str} {qg : Str} {sg : Scope} {g f c' : Addr} {cdg pm ctv : Value} {params : Arguments} {body : Expr} {scope : Scope} {k i : Nat} {a : Str} {w0 : Wd} {S0 : Store} {r : Rho} {fb : FE} {Eg : XK} {W1 : WX} {pn : List (Addr × Obj)} {xe : Value → Shared → Prop} {n1 : Nat} {p1 p2 : Pos}
    (hK : X.K = G.K) (I : Inv X pins σ H s) (L : LamX.LamS X.env.scope scope) (hf : s.heap.get? f = some (PySem.W.kla_obj "<lambda>" (X.env.qual ++ "<lambda>") params body scope (cloFrom X.env.cells scope.names []) pm c' ctv)) (hfn : H f = none) (hfr : f ∉ frs X.stack)
    (hbind : bindArgs (PySem.W.kla_fn "<lambda>" (X.env.qual ++ "<lambda>") params body scope (cloFrom X.env.cells scope.names []) pm (.ref c') ctv) ⟨[], []⟩ = pure [])
    (ok0 : Wok G w0 S0 H) (en0 : EnvOk G w0 σ r) (hco : w0.I c' = some (LamX.CodeO c' (X.env.qual ++ "<lambda>")))
    (hbody : ∀ (A : Around) (outer : List Env) (s : Shared) (H : Hp) (E : XK), CxG G (LamX.lamCx X A outer s H E scope f c') (fun cls d _ H' => E cls d H') k → RE G (LamX.lamCx X A outer s H E scope f c') (fun cls d _ H' => E cls d H') body fb)
    (C1 : CxG (G.at f w0.I w0.as) ((cxOf (L2.CX X.prog X.w) X.prog X.w X.K X.mg X.base Ng qg sg g cdg X.A X.stack s H Eg).tr pn xe) W1 n1) (hk : k + 1 ≤ n1)
    (hN : Ng[i]? = some a) (hv : Vis sg a) (hd : (a == ("__debug__" : Str)) = false := by decide) (hcd : (a == ("__classdict__" : Str)) = false := by decide) :
    RE (G.at f w0.I w0.as) ((cxOf (L2.CX X.prog X.w) X.prog X.w X.K X.mg X.base Ng qg sg g cdg X.A X.stack s H Eg).tr pn xe) W1 (.Call (.Name a p1) [] [] p2) (wAct i fun S => fb r S) := by
  refine ⟨⟨fun pinsZ sZ σZ HZ Q IZ ⟨w, S, rz, ok, en, q⟩ => ?_⟩, lf_mon _⟩
  have q : out (wAct i (fun S => fb r S) rz S) (Qv (G.at f w0.I w0.as) w HZ Q) (Qx (G.at f w0.I w0.as) w HZ fun c d H' => W1 c d σZ H') := q
  unfold wAct at q
  split at q
  · rename_i hz
    obtain ⟨v0, hs, rv⟩ := en.at_ i .fn hz
    have rv : v0 = .ref f := rv
    subst rv
    refine wpAny_Call_Name_kw (thn ((pe_var (pos := p1) (i := i) hN hv hd hcd).run pinsZ sZ σZ HZ (fun v H1 => v = .ref f ∧ H1 = HZ) IZ ⟨.ref f, hs, rfl, rfl⟩) fun u s1 ⟨v, H1, I1, r1, q1⟩ => ?_)
    obtain ⟨ev, eH⟩ := q1
    subst ev
    rw [eH] at I1
    obtain rfl : u = Value.ref f := r1
    have of1 : s1.heap.get? f = some (PySem.W.kla_obj "<lambda>" (X.env.qual ++ "<lambda>") params body scope (cloFrom X.env.cells scope.names []) pm c' ctv) := I1.base.keep f _ hf hfn hfr (fun z => nomatch (show f ∈ ([] : List Addr) from z))
    refine PySem.W.callWith_F0 ⟨_, _, _, _, of1⟩ ?_
    have un : Un (frs X.stack) [] H HZ s.heap s1.heap := I1.base
    obtain ⟨⟨oc, vs, t, hoc, hdc, hvc⟩, _, _⟩ := I1.hok c' _ (ok.sub _ _ (ok.tb.un.1 _ _ hco))
    have hr := C1.rm.mono hk
    have up := ok.tb.un
    have up0 := un_trans ok0.tb.un up
    have okG : Wok G w S HZ := wok_back ok up0
    have enG : EnvOk G w σ r := ⟨en0.len, fun j d h => let ⟨v, e, z⟩ := en0.at_ j d h; ⟨v, e, z.above up.1 up.2⟩⟩
    have q2 : out (fb r S) (Qv G w HZ Q) (Qx G w HZ fun c d H' => W1 c d σZ H') := out_mono (out_noFn q) (fun d S' ⟨hd, z⟩ v w' H' x k rd => z v w' H' x (wok_at k (un_trans up ⟨x.I, x.as⟩)) ((repD_at hd).mpr rd)) fun y S' z c d w' H' x k rx => z c d w' H' x (wok_at k (un_trans up ⟨x.I, x.as⟩)) (repX_at.mpr rx)
    have rc : codeAny (model X.prog X.w) (X.A.deeper (envOfC qg sg s.heap.objs.size g cdg)) (.call (.ref f) ⟨[], []⟩) (CR (L2.CX X.prog X.w) (envOfC qg sg s.heap.objs.size g cdg :: X.stack) X.prog X.w HZ s1 Q (fun c d H' => W1 c d σZ H')) s1 := by
      refine PySem.W.kla_callFunE hr.depth of1 rfl L.co L.gen rfl ⟨c', oc, vs, t, rfl, hoc, hdc, hvc⟩ ?_
      rw [hbind]
      refine wpAny_pure (wpAny_newFunctionEnv (fun y hy => (L.own y hy).2) (fun y hy => absurd hy (by simp)) (fun h₁ hns hsb => ⟨I1.nolimit.fresh _ hsb, ?_⟩) L.kind)
      show codeAny _ _ (.expr body (LamX.lamEnv X scope s1.heap.objs.size f c')) _ _
      have kp : ∀ b o, s1.heap.get? b = some o → h₁.get? b = some o := fun b o e => hsb.extBut b o (Nat.ne_of_lt (Heap.lt_size e)) (Heap.get?_push_of_some _ e)
      have J : Inv (LamX.lamCx X (X.A.deeper (envOfC qg sg s.heap.objs.size g cdg)) (envOfC qg sg s.heap.objs.size g cdg :: X.stack) s1 HZ (fun c d H' => W1 c d σZ H') scope f c') [] σ HZ { s1 with heap := h₁, toks := s1.toks + ([] : List (Str × Value)).length } :=
        LamX.lam_start2 I L I1.env0 hr.hd un hns kp
      have CL : CxG G (LamX.lamCx X (X.A.deeper (envOfC qg sg s.heap.objs.size g cdg)) (envOfC qg sg s.heap.objs.size g cdg :: X.stack) s1 HZ (fun c d H' => W1 c d σZ H') scope f c') (fun cls d _ H' => W1 cls d σZ H') k := ⟨hK, takes_of rfl rfl rfl rfl, hr.deeper _, C1.gd, rfl⟩
      refine PySem.W.kla_codeExpr (wpAny_mono ((hbody _ _ s1 HZ _ CL).pe.run [] _ _ HZ Q J ⟨w, S, r, okG, enG, q2⟩) (fun v s' hq => ?_) fun e s' hq => hq)
      obtain ⟨w', H', J', rv, q⟩ := hq
      exact ⟨w', H', J'.os, J'.bare, J'.base, J'.hok, rv, q⟩
    refine wpAny_call (codeAny_mono rc fun r s' hq => ?_)
    cases r with
    | error e => exact passAt C1.tk σZ pinsZ HZ s1 e s' I1 hq
    | ok fl =>
      cases fl with
      | ret u => exact I1.after hq
      | next => exact False.elim hq
      | brk => exact False.elim hq
      | cont => exact False.elim hq
  · exact q.elim
end
/-- what a def that calls what it got must show -/
def CatchR (G : Glob) (P : Program) (w : World) (mg : Str → Option Value) (base : Heap) (g : Addr) (x a : Str) (Ng : List Str) (sg : Scope) (bg : List Stmt) (k2 k : Nat) (fc : (Store → O D) → FS) : Prop :=
  ∀ (f : Addr) (I0 : Hp) (as0 : List Addr) (cdv : Value) (A : Around) (outer : List Env) (s : Shared) (H : Hp) (E : XK) (act : Store → O D),
    CxG (G.at f I0 as0) (cxOf (L2.CX P w) P w G.K mg base Ng x sg g cdv A outer s H E) (fun cls d _ H' => E cls d H') k2 →
    (∀ (W1 : WX) (pn : List (Addr × Obj)) (xe : Value → Shared → Prop) (n1 : Nat) (p1 p2 : Pos), CxG (G.at f I0 as0) ((cxOf (L2.CX P w) P w G.K mg base Ng x sg g cdv A outer s H E).tr pn xe) W1 n1 → k + 1 ≤ n1 →
      RE (G.at f I0 as0) ((cxOf (L2.CX P w) P w G.K mg base Ng x sg g cdv A outer s H E).tr pn xe) W1 (.Call (.Name a p1) [] [] p2) (wAct 0 act)) →
    RSs (G.at f I0 as0) (cxOf (L2.CX P w) P w G.K mg base Ng x sg g cdv A outer s H E) (fun cls d _ H' => E cls d H') bg (fc act)
/-- what it gives back -/
def mcF (N : List Str) (fc : (Store → O D) → FS) (act : Store → O D) (S : Store) : O D := finF S.length (fc act (startR N [.fn]) S)
def wLam (mc : (Store → O D) → Store → O D) (fb : FE) (r : Rho) (S : Store) : O D := noFn (mc (fun S' => fb r S') S)
section
variable {G : Glob} {X : Cx} {W : WX} {n : Nat}
theorem re_lam {c P g : Addr} {x a : Str} {pg : Arguments} {bg : List Stmt} {sg : Scope} {fd : FuncData} {Ng : List Str} {params : Arguments} {body : Expr} {scope : Scope} {k k2 : Nat} {fb : FE} {fc : (Store → O D) → FS} {p lpos pos : Pos}
    (C : CxG G X W n) (hg : Gl X x) (hm : X.mg x = some (.ref g)) (F : FunD G.K x x pg bg sg [] [] g fd) (hb : Binds G.K fd [a] []) (Sg : FnScope Ng [a] sg) (hNg : Ng[0]? = some a) (hva : Vis sg a) (hG : CatchR G X.prog X.w X.mg X.base g x a Ng sg bg k2 k fc) (hk : k2 + 1 ≤ n)
    (TB : LamX.TabB X.base X.mg c P) (hcode : X.env.code = .ref c) (hmT : (P, X.env.qual ++ "<lambda>") ∈ G.tabs) (hu : ∀ p ∈ G.tabs, p.1 = P → p.2 = X.env.qual ++ "<lambda>") (L : LamX.LamS X.env.scope scope) (hdef : defaultsOf params X.env = ([], []))
    (hbind : ∀ (q : Str) (cl : List (Str × Addr)) (pm cv ctv : Value), bindArgs (PySem.W.kla_fn "<lambda>" q params body scope cl pm cv ctv) ⟨[], []⟩ = pure [])
    (hbody : ∀ (A : Around) (outer : List Env) (s : Shared) (H : Hp) (E : XK) (f c' : Addr), CxG G (LamX.lamCx X A outer s H E scope f c') (fun cls d _ H' => E cls d H') k → RE G (LamX.lamCx X A outer s H E scope f c') (fun cls d _ H' => E cls d H') body fb)
    (hdb : (x == ("__debug__" : Str)) = false := by decide) (hd : (a == ("__debug__" : Str)) = false := by decide) (hcd : (a == ("__classdict__" : Str)) = false := by decide) :
    RE G X W (.Call (.Name x p) [.Lambda params body scope lpos] [] pos) (wLam (mcF Ng fc) fb) := by
  refine ⟨⟨fun pins s σ H Q I ⟨w, S, r, ok, en, q⟩ => ?_⟩, lf_mon _⟩
  have q : out (wLam (mcF Ng fc) fb r S) (Qv G w H Q) (Qx G w H fun c d H' => W c d σ H') := q
  have q := out_noFn q
  have hK := C.hK
  obtain ⟨⟨ps, hP, ht, ha⟩, _, _⟩ := ok.tb.at_ _ hmT
  refine wpAny_Call_Name_kw (ld_glob I hg hm ?_ hdb)
  refine PySem.W.callWith_K (h₀ := X.base) I.ok.mod.kin (by rw [hK]; exact F.kp) ?_ (by rfl) (by rfl)
  show wpAny _ _ (spliced ((false, eval (.Lambda params body scope lpos) X.env) :: backTo pos (starEach [] X.env))) _ _ s
  refine Calls.spliced_cons (lam_make3 I TB hcode hP ht (fun pos cv hc => let ⟨c, e, z⟩ := ha pos cv hc; ⟨c, e, ok.sub _ _ z⟩) hdef (L.has I.ok) fun f c' pm' ctv H1 s' I1 hH hf hfn hfr => ?_)
  refine Calls.spliced_nil ⟨I1.kIn, ?_⟩
  obtain ⟨w1, k1, x1, hco⟩ := lam_world ok hmT hu hP hH
  have k1' : Wok (G.at f w1.I w1.as) w1 S H1 := wok_at k1 ⟨Same.refl _, [], by simp⟩
  obtain ⟨oc, od, dV, kV, doc, pm, an, cdv, ct, osl, efd, lk, hcd', _, _⟩ := F.ex
  subst efd
  have rc : codeAny (model X.prog X.w) X.A (.call (.ref g) ⟨[.ref f], []⟩) (CR (L2.CX X.prog X.w) X.stack X.prog X.w H1 s' Q (fun c d H' => W c d σ H')) s' := by
    rw [← hK] at lk hcd' hb
    refine LamX.run_ofS (N := Ng) (ps := [a]) (us := [.ref f]) (vs := [.ref f]) lk hcd' Sg (C.rm.mono hk) I1.env0 (hb s' [.ref f] I1.kIn rfl) (.cons rfl .nil) rfl fun hr' => ?_
    have CZ : CxG (G.at f w1.I w1.as) (cxOf (L2.CX X.prog X.w) X.prog X.w X.K X.mg X.base Ng x sg g cdv X.A X.stack s' H1 (fun c d H' => W c d σ H')) (fun cls d _ H' => W cls d σ H') k2 := ⟨hK, takes_of rfl rfl rfl rfl, hr', C.gd, rfl⟩
    have hG' : CatchR G X.prog X.w X.mg X.base g x a Ng sg bg k2 k fc := hG
    unfold CatchR at hG'
    rw [← hK] at hG'
    have B := hG' f w1.I w1.as cdv X.A X.stack s' H1 (fun c d H' => W c d σ H') (fun S => fb r S) CZ fun W1 pn xe n1 p1 p2 C1 hk1 =>
      re_act (i := 0) hK I1 L hf hfn hfr (hbind _ _ _ _ _) k1 (en.mono x1) hco (fun A outer s H E CL => hbody A outer s H E f c' CL) C1 hk1 hNg hva hd hcd
    refine ⟨_, B.ps, w1, S, startR Ng [.fn], k1', start_ok (ds := [.fn]) (vs := [.ref f]) ⟨rfl, trivial⟩, ?_⟩
    have low : lfS (fc fun S => fb r S) (endsF S.length (Qv (G.at f w1.I w1.as) w1 H1 Q) (Qx (G.at f w1.I w1.as) w1 H1 fun c d H' => W c d σ H')) (startR Ng [.fn]) S := by
      have q3 : out (finF S.length ((fc fun S => fb r S) (startR Ng [.fn]) S)) (Qv (G.at f w1.I w1.as) w1 H1 Q) (Qx (G.at f w1.I w1.as) w1 H1 fun c d H' => W c d σ H') :=
        out_mono q (fun d S' ⟨hd, z⟩ v w' H' x k rd => z v w' H' (x1.trans x) (wok_back k (un_trans k1.tb.un ⟨x.I, x.as⟩)) ((repD_at hd).mp rd)) fun y S' z c d w' H' x k rx => z c d w' H' (x1.trans x) (wok_back k (un_trans k1.tb.un ⟨x.I, x.as⟩)) (repX_at.mp rx)
      show outS ((fc fun S => fb r S) (startR Ng [.fn]) S) _
      cases e : (fc fun S => fb r S) (startR Ng [.fn]) S with
      | nx r S => rw [e] at q3; exact q3
      | rt d S => rw [e] at q3; exact q3
      | bk r S => rw [e] at q3; exact q3
      | ct r S => rw [e] at q3; exact q3
      | ex r x S => rw [e] at q3; exact q3
      | bad => rw [e] at q3; exact q3
    refine B.mono (endsF S.length (Qv (G.at f w1.I w1.as) w1 H1 Q) (Qx (G.at f w1.I w1.as) w1 H1 fun c d H' => W c d σ H')) _ _ _ ⟨fun r S' q τ w' H' x k en => ?_, fun d S' q => cut_ret k1' q, fun _ _ z => z.elim, fun _ _ z => z.elim, fun r y S' q τ c d w' H' x k en rx => ?_⟩ low
    · obtain ⟨k2, x2⟩ := k1'.cut x k
      exact q .non _ H' x2 k2 (rep_non.mpr rfl)
    · exact cut_exc k1' q c d w' H' x k rx
  refine wpAny_call (codeAny_mono rc fun r s2 hq => ?_)
  cases r with
  | error e => exact passAt C.tk σ pins H1 s' e s2 I1 hq
  | ok fl =>
    cases fl with
    | ret u => exact I1.after hq
    | next => exact False.elim hq
    | brk => exact False.elim hq
    | cont => exact False.elim hq
end
end RB.F
/-! The head's facts, where some defs make lambdas: their tables of code objects stand aside. -/
namespace RB.F
open PySem PySem.Spec PyProof.Rows L2 RB
def codeG (g : Addr → Option Obj) (a : Addr) : Option Addr := match g a with
  | some ⟨_, _, .func fd, _⟩ => (match fd.code with
    | .ref c => some c
    | _ => none)
  | _ => none
def tabG (g : Addr → Option Obj) (c : Addr) : Option Addr := match g c with
  | some ⟨.type "code", _, .fields vs, _⟩ => (match (vs[11]? : Option Value) with
    | some (.ref P) => some P
    | _ => none)
  | _ => none
def mkG (g : Addr → Option Obj) (K0 : PySem.W.Frag) (p : Str × Option Str) : Option (Addr × Addr) := (codeG g (He.fAd K0 p)).bind fun c => (tabG g c).map fun P => (c, P)
def csG (n : Nat) (mk : List (Str × Option Str)) (g : Addr → Option Obj) : List (Addr × Addr) := mk.filterMap (mkG g (He.frG g (List.range n)))
def asG (n : Nat) (cs : List (Addr × Addr)) : List Addr := (List.range n).filter fun a => !(cs.any fun q => q.2 == a)
def emptyB (o : Option Obj) : Bool := match o with
  | some ⟨.none, none, .fields vs, sl⟩ => vs.toList.isEmpty && sl.toList.isEmpty
  | _ => false
theorem emptyB_ok {o : Option Obj} (h : emptyB o = true) : o = some (PySem.W.tabObj #[]) := by
  unfold emptyB at h
  split at h
  · rename_i vs sl
    obtain ⟨h1, h2⟩ := Bool.and_eq_true_iff.mp h
    obtain ⟨vl⟩ := vs
    obtain ⟨sl⟩ := sl
    simp only [List.isEmpty_iff] at h1 h2
    subst h1; subst h2
    rfl
  · cases h
def codeB (K : PySem.W.Frag) (c P : Addr) : Bool := match K.lookup c with
  | some ⟨.type "code", _, .fields vs, _⟩ => (match (vs[11]? : Option Value), vs.getD 18 .none, vs.getD 7 .none, vs.getD 9 .none, vs.getD 10 .none with
    | some (.ref P'), .str _ _, .int _ _, .bool _, .int _ _ => decide (P' = P) && !(decide (c = P))
    | _, _, _, _, _ => false)
  | _ => false
theorem codeB_ok {K : PySem.W.Frag} {h : Heap} {c P : Addr} (hK : K.In h) (q : codeB K c P = true) : PySem.W.CodeHd h c P := by
  unfold codeB at q
  split at q
  · rename_i dd vs sl e
    split at q
    · rename_i P' f tf fl tg b tx tt e1 e2 e3 e4 e5
      obtain ⟨q1, q2⟩ := Bool.and_eq_true_iff.mp q
      have q1 := of_decide_eq_true q1
      subst q1
      refine ⟨_, vs, f, tf, fl, tg, b, tx, tt, hK _ _ e, rfl, rfl, e1, ?_, e2, e3, e4, e5, by simpa using q2⟩
      rw [Array.getD_eq_getD_getElem?, e1]
      rfl
    · cases q
  · cases q
def oneB (g : Addr → Option Obj) (K : PySem.W.Frag) (q : (Str × Option Str) × Addr × Addr) : Bool := emptyB (g q.2.2) && (codeB K q.2.1 q.2.2 && decide (codeG (fun a => K.lookup a) (He.fAd K q.1) = some q.2.1))
def tabsB (g : Addr → Option Obj) (K : PySem.W.Frag) (mk : List (Str × Option Str)) (cs : List (Addr × Addr)) : Bool := decide (cs.length = mk.length) && (decide (cs.map (·.2)).Nodup && (mk.zip cs).all (oneB g K))
structure TabsIn (K : PySem.W.Frag) (h : Heap) (mk : List (Str × Option Str)) (cs : List (Addr × Addr)) : Prop where
  len : cs.length = mk.length
  nd : (cs.map (·.2)).Nodup
  at_ : ∀ q ∈ mk.zip cs, h.get? q.2.2 = some (PySem.W.tabObj #[]) ∧ PySem.W.CodeHd h q.2.1 q.2.2 ∧ codeG (fun a => K.lookup a) (He.fAd K q.1) = some q.2.1
  out : ∀ q ∈ cs, K.lookup q.2 = none
theorem TabsIn.of {K : PySem.W.Frag} {h : Heap} : ∀ {mk : List (Str × Option Str)} {cs : List (Addr × Addr)}, TabsIn K h mk cs → ∀ {p : Addr × Addr}, p ∈ cs → h.get? p.2 = some (PySem.W.tabObj #[]) ∧ PySem.W.CodeHd h p.1 p.2 := by
  intro mk cs t p hp
  obtain ⟨i, hi, e⟩ := List.getElem_of_mem hp
  have hl := t.len
  have hm : (mk[i]'(by omega), cs[i]) ∈ mk.zip cs := by
    rw [List.mem_iff_getElem]
    exact ⟨i, by simp; omega, by simp⟩
  have z := t.at_ _ hm
  rw [e] at z
  exact ⟨z.1, z.2.1⟩
theorem frG_out {g : Addr → Option Obj} {P : Addr} : ∀ {as : List Addr}, P ∉ as → (He.frG g as).lookup P = none
  | [], _ => rfl
  | b :: r, h => by
    have h1 : P ≠ b := fun z => h (by rw [z]; exact List.mem_cons_self)
    have ih := frG_out (g := g) (fun z => h (List.mem_cons_of_mem _ z) : P ∉ r)
    unfold He.frG
    rw [List.filterMap_cons]
    cases hb : g b with
    | none => exact ih
    | some o =>
      simp only [Option.map_some, List.lookup_cons]
      rw [show (P == b) = false from beq_eq_false_iff_ne.mpr h1]
      exact ih
def obsTG (n : Nat) (fa : List He.Fa) (fn : List He.DefD) (ck : PySem.W.Frag → Bool) (mk : List (Str × Option Str)) (g : Addr → Option Obj) : He.AlD × Bool :=
  (fun (K : PySem.W.Frag) => (He.obsD fa fn K, (K.lookup sysModules).isSome && (ck K && tabsB g K mk (csG n mk g)))) (He.frG g (asG n (csG n mk g)))
def hookT (n : Nat) (fa : List He.Fa) (fn : List He.DefD) (ck : PySem.W.Frag → Bool) (mk : List (Str × Option Str)) : PySem.W.Hook where
  α := He.AlD × Bool
  obs := fun s => obsTG n fa fn ck mk s.heap.get?
  val := fun _ => (He.valD fn, true)
  says := fun _ h => ∃ K : PySem.W.Frag, K.In h ∧ He.SaysD fa fn K ∧ KSys K ∧ ck K = true ∧ ∃ cs, TabsIn K h mk cs
  of := fun _ s e => by
    have e2 := congrArg Prod.snd e
    obtain ⟨a1, a2⟩ := Bool.and_eq_true_iff.mp e2
    obtain ⟨a2, a3⟩ := Bool.and_eq_true_iff.mp a2
    obtain ⟨a3, a4⟩ := Bool.and_eq_true_iff.mp a3
    obtain ⟨a4, a5⟩ := Bool.and_eq_true_iff.mp a4
    refine ⟨_, He.frG_in, congrArg Prod.fst e, Option.isSome_iff_exists.mp a1, a2, _, of_decide_eq_true a3, of_decide_eq_true a4, fun q hq => ?_, fun q hq => frG_out fun z => ?_⟩
    · have z := List.all_eq_true.mp a5 q hq
      obtain ⟨b1, b2⟩ := Bool.and_eq_true_iff.mp z
      obtain ⟨b2, b3⟩ := Bool.and_eq_true_iff.mp b2
      exact ⟨emptyB_ok b1, codeB_ok He.frG_in b2, of_decide_eq_true b3⟩
    · have z2 := (List.mem_filter.mp z).2
      have z3 : ((csG n mk s.heap.get?).any fun q' => q'.2 == q.2) = true := List.any_eq_true.mpr ⟨q, hq, by simp⟩
      rw [z3] at z2
      cases z2
  keeps := fun _ _ _ ⟨K, hK, c1, c2, c3, cs, t⟩ k => ⟨K, PySem.W.Frag.In.keeps hK k, c1, c2, c3, cs, t.len, t.nd, fun q hq => ⟨k _ _ (t.at_ q hq).1, (t.at_ q hq).2.1.keeps k, (t.at_ q hq).2.2⟩, t.out⟩
theorem obsTG_eq {n : Nat} {fa : List He.Fa} {fn : List He.DefD} {ck : PySem.W.Frag → Bool} {mk : List (Str × Option Str)} {g : Addr → Option Obj} {s : Shared} (h : ∀ a, g a = s.heap.get? a) : obsTG n fa fn ck mk g = (hookT n fa fn ck mk).obs s := by
  have e : g = s.heap.get? := funext h
  rw [e]
  rfl
/-- the code object that a def knows -/
theorem code_of {K : PySem.W.Frag} {x qual : Str} {params : Arguments} {body : List Stmt} {scope : Scope} {dvs : List V} {kws : List (Str × V)} {f c : Addr} {fd : FuncData} (F : FunD K x qual params body scope dvs kws f fd) (h : codeG (fun a => K.lookup a) f = some c) : fd.code = .ref c := by
  obtain ⟨oc, od, dV, kV, doc, pm, an, cdv, ct, osl, e, lk, _⟩ := F.ex
  unfold codeG at h
  dsimp only at h
  rw [lk] at h
  dsimp only at h
  split at h
  · rename_i c' e'
    cases h
    exact e'
  · cases h
/-- the rule of a def that knows its code object -/
theorem fn_fC {G : Glob} {P : Program} {w : World} {mg : Str → Option Value} {base : Heap} {x qual : Str} {params : Arguments} {body : List Stmt} {scope : Scope} {dvs : List V} {kws : List (Str × V)} {fa : Addr} {fd : FuncData} {N ps : List Str} {k : Nat} {f : FS} (F : FunD G.K x qual params body scope dvs kws fa fd) (S : FnScope N ps scope)
    (hbody : ∀ (cdv : Value) (A : Around) (outer : List Env) (s : Shared) (H : Hp) (E : XK), cdv = fd.code → CxG G (cxOf (L2.CX P w) P w G.K mg base N qual scope fa cdv A outer s H E) (fun cls d _ H' => E cls d H') k →
      RSs G (cxOf (L2.CX P w) P w G.K mg base N qual scope fa cdv A outer s H E) (fun cls d _ H' => E cls d H') body f) : FnG G P w mg base (k + 1) fa fd ps (spF (fnF N ps f)) :=
  fn_gC F S (spF_mon _) fnF_len hbody fnF_pur
end RB.F
/-! A list made by a comprehension, that will change. -/
namespace RB
open PySem PySem.Spec PyProof.Rows L2
section
variable {G : Glob}
/-- a list that stood aside is now a thing of the store -/
theorem Wok.takeC {w : Wd} {S : Store} {H : Hp} {p : Addr} {vs : List V} {ps : List P} (k : Wok G w S H) (hp : H p = some (.lst vs)) (h1 : w.I p = none) (h2 : p ∉ w.as) (r : Reps G w.I vs ps) : Wok G ⟨w.I, w.as ++ [p], w.ts⟩ (S ++ [.lst ps]) H := by
  refine ⟨k.sub, by simp [k.len], ?_, k.tb.step rfl (Same.refl _) ⟨[p], rfl⟩ fun P ps' m e i n => ⟨e, i, ?_⟩, fun n c a h3 h4 => ?_⟩
  · show (w.as ++ [p]).Nodup
    rw [List.nodup_append]
    exact ⟨k.nd, by simp, fun a ha b hb => by simp at hb; subst hb; exact fun z => h2 (z ▸ ha)⟩
  · show P ∉ w.as ++ [p]
    simp only [List.mem_append, List.mem_singleton, not_or]
    exact ⟨n, fun z => by rw [z, hp] at e; cases e⟩
  · have h4 : (w.as ++ [p])[n]? = some a := h4
    by_cases hn : n < S.length
    · rw [List.getElem?_append_left hn] at h3
      rw [List.getElem?_append_left (by rw [k.len]; exact hn)] at h4
      exact k.cells n c a h3 h4
    · have e : n = S.length := by
        have := (List.getElem?_eq_some_iff.mp h3).1
        simp at this; omega
      subst e
      rw [List.getElem?_append_right (Nat.le_refl _)] at h3
      rw [List.getElem?_append_right (by rw [k.len]; exact Nat.le_refl _)] at h4
      simp [k.len] at h3 h4
      subst h3; subst h4
      exact ⟨h1, vs, hp, r⟩
theorem Ext.takeC {w w' : Wd} {H H' : Hp} {p : Addr} (x : Ext w H w' H') (hp : H p = none) : Ext w H ⟨w'.I, w'.as ++ [p], w'.ts⟩ H' := by
  obtain ⟨t, ht⟩ := x.as
  refine ⟨x.I, ⟨t ++ [p], by show w'.as ++ [p] = _; rw [ht, List.append_assoc]⟩, x.ts, x.frame, fun b o h n => ⟨?_, (x.fresh b o h n).2⟩, x.there⟩
  show b ∉ w'.as ++ [p]
  simp only [List.mem_append, List.mem_singleton, not_or]
  exact ⟨(x.fresh b o h n).1, ne_of_none h hp⟩
end
end RB
namespace RB.F
open PySem PySem.Spec PyProof.Rows L2 RB
section
variable {G : Glob} {X : Cx} {W : WX}
def lstKC (ps : List P) (S2 : Store) : O D := .ok (.cell S2.length) (S2 ++ [.lst ps])
def lcKC (T : Tgt) (ft : FT) (fe : FE) (r0 : Rho) (ds : List D) (S1 : Store) : O D := (lcF T ft fe r0 ds 0 S1).bind lstKC
def wLCC (fi : FA) (T : Tgt) (ft : FT) (fe : FE) (vs : List Nat) (r : Rho) (S : Store) : O D := (fi r S).bind (lcKC T ft fe (wipeR r vs))
theorem re_lcC {elt tg iter : Expr} {ifs : List Expr} {scope : Scope} {own : List (Str × Nat)} {pos : Pos} {fi : FA} {T : Tgt} {ft : FT} {fe : FE} (hK : X.K = G.K) (hc : X.calm = true) (hN : X.N.Nodup) (hi : RI G X W tg iter fi) (ok : BlkOk X.N X.env.scope scope own) (hT : ∀ i ∈ T.slots, i ∈ own.map (·.2))
    (hg : ∀ (s : Shared) (H : Hp) (C : Addr) (cl : List (Str × Addr)) (fp : List Addr), PG (X.blk s H scope (compEnvC scope cl C X.env) fp) tg (gT X.K T)) (ht : ∀ (s : Shared) (H : Hp) (C : Addr) (cl : List (Str × Addr)) (fp : List Addr), RTs G (X.blk s H scope (compEnvC scope cl C X.env) fp) WF ifs ft)
    (he : ∀ (s : Shared) (H : Hp) (C : Addr) (cl : List (Str × Addr)) (fp : List Addr), RE G (X.blk s H scope (compEnvC scope cl C X.env) fp) WF elt fe) (hs : ∀ x, foldedSetIterable iter X.env x = pure x := by intro _; rfl) :
    RE G X W (.ListComp elt [⟨tg, iter, ifs, 0⟩] scope pos) (wLCC fi T ft fe (own.map (·.2))) := by
  refine ⟨PE.imp (pe_lc hc hN hi.pi ok hg (fun s H C cl fp => (ht s H C cl fp).pts) (fun s H C cl fp => (he s H C cl fp).pe) hs) fun σ H Q ⟨w, S, ρ, k, en, q⟩ => ?_, lf_mon _⟩
  have q : out (wLCC fi T ft fe (own.map (·.2)) ρ S) (Qv G w H Q) (Qx G w H fun c d H' => W c d σ H') := q
  unfold wLCC at q
  rw [out_bind] at q
  refine lc_inG (Kf := fun ps S2 => Qv G w H Q (.cell S2.length) (S2 ++ [.lst ps])) hK hi.mono (ht X.s_0 X.H_0 0 [] []).mono (he X.s_0 X.H_0 0 [] []).mono hT k en (out_mono q (fun ds S1 q => ?_) fun _ _ z => z) fun acc S2 w2 Hc D vs x k2 hDc nI2 nA2 rs nD0 run => ?_
  · refine lc_in (E := fun _ _ => False) (acc := []) ?_
    unfold lcKC at q
    rw [out_bind] at q
    show out (lcF T ft fe (wipeR ρ (own.map (·.2))) ds 0 S1) _ _
    cases e : lcF T ft fe (wipeR ρ (own.map (·.2))) ds 0 S1 with
    | ok a S2 =>
      rw [e] at q
      have q : Qv G w H Q (.cell S2.length) (S2 ++ [.lst a]) := q
      simpa using q
    | ex y S2 => exact (lcF_noEx e).elim
    | bad => rw [e] at q; exact q.elim
  · refine run (.ref D) _ Hc (x.takeC nD0) (k2.takeC hDc nI2 nA2 rs) ⟨D, rfl, ?_⟩
    show (w2.as ++ [D])[S2.length]? = some D
    rw [List.getElem?_append_right (by rw [k2.len]; exact Nat.le_refl _), k2.len]
    simp
end
end RB.F
/-! A dict of the top with texts: d[k], d.items(); d.get(k, x) of a display. -/
namespace RB
open PySem PySem.Spec PyProof.Rows L2
theorem CxG.h65 {G : Glob} {X : Cx} {W : WX} {n : Nat} (C : CxG G X W n) : X.A.units + 65 < cLine := by
  have := C.rm.un
  omega
end RB
namespace RB.F
open PySem PySem.Spec PyProof.Rows L2 RB
def entB (e : DictEntry) : Option (Str × Str) := match e.key, e.val with
  | .str x _, .str y _ => some (x, y)
  | _, _ => none
theorem entB_ok {e : DictEntry} {x y : Str} (h : entB e = some (x, y)) : ∃ t u, e.key = .str x t ∧ e.val = .str y u := by
  unfold entB at h
  split at h
  · rename_i a t b u e1 e2
    cases h
    exact ⟨t, u, e1, e2⟩
  · cases h
structure KTab (K : PySem.W.Frag) (w : World) (d : Addr) (kvs : List (Str × Str)) : Prop where
  D : ∃ es n, KDict K w d es n ∧ es.toList.map entB = kvs.map some
def tabL : List (Str × Str) → Str → Option Str
  | [], _ => none
  | (x, y) :: r, z => if x = z then some y else tabL r z
def dTab (kvs : List (Str × Str)) (d : D) (S : Store) : O D := match d with
  | .p (.str z) => match tabL kvs z with
    | some y => .ok (.p (.str y)) S
    | none => .bad
  | _ => .bad
theorem dTab_e {kvs : List (Str × Str)} {z y : Str} {S : Store} (h : tabL kvs z = some y) : dTab kvs (.p (.str z)) S = .ok (.p (.str y)) S := by
  simp only [dTab, h]
theorem find_tab {z : Str} : ∀ {es : List DictEntry} {kvs : List (Str × Str)} {y : Str}, es.map entB = kvs.map some → tabL kvs z = some y → ∃ e, es.find? (·.key.isStr z) = some e ∧ ∃ t, e.val = .str y t
  | [], [], _, _, h => by cases h
  | e :: es, [], _, h, _ => by simp at h
  | [], q :: kvs, _, h, _ => by simp at h
  | e :: es, (a, b) :: kvs, y, h, l => by
    simp only [List.map_cons, List.cons.injEq] at h
    obtain ⟨t, u, e1, e2⟩ := entB_ok h.1
    unfold tabL at l
    by_cases c : a = z
    · rw [if_pos c] at l
      cases l
      refine ⟨e, ?_, u, e2⟩
      rw [List.find?_cons, e1]
      simp [Value.isStr, c]
    · rw [if_neg c] at l
      obtain ⟨e', h1, h2⟩ := find_tab h.2 l
      refine ⟨e', ?_, h2⟩
      rw [List.find?_cons, e1]
      have : (Value.str a t).isStr z = false := by simp [Value.isStr, c]
      rw [this]
      exact h1
theorem KTab.ns {K : PySem.W.Frag} {w : World} {d : Addr} {kvs : List (Str × Str)} {es : Array DictEntry} {n : Nat} (D : KDict K w d es n) (h : es.toList.map entB = kvs.map some) {z y : Str} (l : tabL kvs z = some y) : ∃ u, PySem.W.nsIn K d z = some (some u) ∧ RelV (.str y) u := by
  obtain ⟨e, h1, t, h2⟩ := find_tab h l
  refine ⟨e.val, ?_, t, h2⟩
  unfold PySem.W.nsIn
  rw [D.at_]
  dsimp only
  rw [h1]
section
variable {X : Cx} {x : Str} {i : Expr} {p pos : Pos} {d : Addr} {kvs : List (Str × Str)} {ty : TE}
def tTab (kvs : List (Str × Str)) (ty : TE) : TE := fun σ H Q => ty σ H fun y H2 => ∃ z y', y = .str z ∧ tabL kvs z = some y' ∧ Q (.str y') H2
theorem pe_tab (T : KTab X.K X.w d kvs) (hg : Gl X x) (hm : X.mg x = some (.ref d)) (hi : PE X i ty) (hs : NoSl i) (hd : (x == ("__debug__" : Str)) = false := by decide) : PE X (.Subscript (.Name x p) i pos) (tTab kvs ty) := by
  obtain ⟨es, n, D, he⟩ := T.D
  refine ⟨fun pins s σ H Q I h => ?_⟩
  refine subD_of PySem.F.slot_dict_getitem.lookup hs (ld_glob I hg hm (thn (hi.run pins s σ H _ I h) fun iv s2 ⟨y, H2, I2, ry, z, y', ey, l, q2⟩ => ?_) hd)
  subst ey
  obtain ⟨u, h1, h2⟩ := KTab.ns D he l
  exact ⟨kd_type D I2, op_item_kd D pins s2 σ H2 (.ref d) (.str z) _ _ _ I2 rfl ry ⟨z, u, .str y', rfl, rfl, h1, h2, q2⟩⟩
end
/-- the pairs of a dict of the top -/
def Itk (kvs : List (Str × Str)) : It :=
  ⟨fun i H => i < kvs.length, fun i H x H' => ∃ T k v, kvs[i]? = some (k, v) ∧ x = .ref T ∧ H T = none ∧ H' = upd H T (.tup [.str k, .str v]), fun i H => kvs.length ≤ i⟩
section
variable {P : Program} {w : World} {K : PySem.W.Frag} {d : Addr} {es : Array DictEntry} {n : Nat} {kvs : List (Str × Str)}
theorem ent_at (he : es.toList.map entB = kvs.map some) {i : Nat} {k v : Str} (h : kvs[i]? = some (k, v)) : ∃ hi : i < es.size, ∃ t u, es[i].key = .str k t ∧ es[i].val = .str v u := by
  have hl : es.size = kvs.length := by
    have := congrArg List.length he
    simpa using this
  have hi : i < es.size := by
    rw [hl]
    exact (List.getElem?_eq_some_iff.mp h).1
  have e2 : (es.toList.map entB)[i]? = (kvs.map some)[i]? := by rw [he]
  rw [List.getElem?_map, List.getElem?_map, h] at e2
  have e3 : es.toList[i]? = some es[i] := by simp [hi]
  rw [e3] at e2
  exact ⟨hi, entB_ok (Option.some.inj e2)⟩
theorem turn_itemsK (D : KDict K w d es n) (he : es.toList.map entB = kvs.map some) {elts : List Expr} {kk : Nat} {tpos : Pos} (it : Addr) :
    Turn P w K (.Tuple elts kk tpos) (Itk kvs) [it] it (fun i h => ∃ ok ov, IsItemIter h it d i kvs.length n ok ov) where
  mem := by simp
  obj := fun i h st b hb => by
    have e : b = it := by simpa using hb
    subst e
    obtain ⟨ok, ov, e⟩ := st
    exact ⟨_, e, fun v z => nomatch z⟩
  keep := fun i h h' st k => let ⟨ok, ov, e⟩ := st; ⟨ok, ov, k it (by simp) _ e⟩
  item := by
    intro X hP hw hK hc i pins s σ H E I hf st hi
    subst hP hw hK
    have hi : i < kvs.length := hi
    obtain ⟨⟨k, v⟩, hkv⟩ : ∃ p, kvs[i]? = some p := ⟨kvs[i], List.getElem?_eq_getElem hi⟩
    obtain ⟨hlt', t, u, e1, e2⟩ := ent_at he hkv
    have hl : es.size = kvs.length := by
      have := congrArg List.length he
      simpa using this
    obtain ⟨ok, ov, ht⟩ := st
    rw [← hl] at ht
    have hm : s.heap.DictRaw d es n := ⟨_, I.kIn _ _ D.at_, ⟨rfl, rfl, rfl⟩, rfl⟩
    have hlt : it < s.heap.objs.size := Heap.lt_size ht
    refine wpAny_pyNext_items_item_raw ht hm hlt' fun h' ho hT hz hk => ?_
    refine ⟨_, rfl, wpAny_letOwnedTupleGo_items (s := { s with heap := h' }) ho fun h'' he' sb => ?_⟩
    have hT2 : h''.get? s.heap.objs.size = some { cls := .type "tuple", data := .seq #[es[i].key, es[i].val] } := (sb.2 _ (Nat.ne_of_gt hlt)).trans hT
    have new : ObjOk X.prog X.w (upd H s.heap.objs.size (.tup [.str k, .str v])) h'' s.heap.objs.size (.tup [.str k, .str v]) :=
      ⟨by show 2 ≤ sizeLine; decide, [es[i].key, es[i].val], .cons ⟨t, e1⟩ (.cons ⟨u, e2⟩ .nil), ⟨_, hT2, rfl, _, rfl⟩⟩
    have I1 : Inv X pins σ (upd H s.heap.objs.size (.tup [.str k, .str v])) { s with heap := h'' } :=
      I.turnedNew (t' := s.toks) (ch := [it]) (fun b ob hb e => (sb.2 b (by simpa using hb)).trans (hk b ob (by simpa using hb) e)) hf (Nat.le_refl _) new
    refine ⟨.ref s.heap.objs.size, _, I1, rfl, ⟨_, k, v, hkv, rfl, I.hok.fresh (Nat.le_refl _), rfl⟩, ⟨es[i].key, es[i].val, ?_⟩, fun b hb => ?_⟩
    · rw [← hl]; exact he'
    · have e : b = it := by simpa using hb
      rw [e, upd_ne (Nat.ne_of_lt hlt)]
      exact (hf it (by simp)).1
  done := by
    intro X hP hw hK hc i pins s σ H E I hf st hi
    subst hP hw hK
    have hi : kvs.length ≤ i := hi
    obtain ⟨f0, f1, f2, f3, f4, f5⟩ := hf it (by simp)
    have hl : es.size = kvs.length := by
      have := congrArg List.length he
      simpa using this
    have hm : s.heap.DictRaw d es n := ⟨_, I.kIn _ _ D.at_, ⟨rfl, rfl, rfl⟩, rfl⟩
    obtain ⟨ok, ov, ht⟩ := st
    rw [← hl] at ht
    exact wpAny_pyNext_items_end_raw (I.ok.hd hc) ht hm (by omega) fun h' eb => ⟨rfl, I.turned (t' := s.toks) (fun b ob hb e => eb b ob hb e) f0 f1 f3 f4 f5⟩
  self := fun A i s Q E st h => let ⟨_, _, e⟩ := st; PySem.W.kcp_self e h
end
section
variable {G : Glob} {X : Cx} {W : WX} {x : Str} {i : Expr} {p pos apos cpos tpos : Pos} {d : Addr} {kvs : List (Str × Str)} {elts : List Expr} {kk : Nat}
def iTab (kvs : List (Str × Str)) : TI := fun σ H R => R (Itk kvs) H
theorem pi_tab (T : KTab X.K X.w d kvs) (hg : Gl X x) (hm : X.mg x = some (.ref d)) (hd : (x == ("__debug__" : Str)) = false := by decide) (hbase : attributeBase (.Name x p) "items" X.env (eval (.Name x p) X.env) = eval (.Name x p) X.env := by rfl) (hline : (apos.endLine == cpos.line) = true := by rfl) :
    PI X (.Tuple elts kk tpos) (.Call (.Attribute (.Name x p) "items" apos) [] [] cpos) (iTab kvs) := by
  obtain ⟨es, n, D, he⟩ := T.D
  have hl : es.size = kvs.length := by
    have := congrArg List.length he
    simpa using this
  refine ⟨fun pins s σ H R I h => ?_⟩
  have h : R (Itk kvs) H := h
  refine wpAny_Call_method (T := "dict") (id := "dict.items") hbase rfl hline F.plainAttrs_dict F.slot_dict_items F.type_dict_items (ld_glob I hg hm ?_ hd)
  have hm : s.heap.DictRaw d es n := ⟨_, I.kIn _ _ D.at_, ⟨rfl, rfl, rfl⟩, rfl⟩
  refine ⟨hm.typeIs, fun b q => by cases q; exact ⟨_, I.kIn _ _ D.at_, rfl⟩, ?_⟩
  have I2 : Inv X pins σ H { s with heap := s.heap.push { cls := .type "dict_items", data := .fields #[.ref d] } } := I.kept (t' := s.toks) fun b ob q => Heap.get?_push_of_some _ q
  have fin : wpAny (model X.prog X.w) X.A (pyIter (.ref s.heap.objs.size)) (PIE X pins σ (.Tuple elts kk tpos) R) X.xe { s with heap := s.heap.push { cls := .type "dict_items", data := .fields #[.ref d] } } := by
    refine wpAny_pyIter_items_raw (d := d) (es := es) (ep := n) ⟨_, Heap.get?_push_size _ rfl, rfl, rfl⟩ (hm.at fun o e => Heap.get?_push_of_some _ e) (pi_one (tk := s.toks) I2 _ (turn_itemsK D he _) ⟨.none, .none, ?_⟩ h)
    rw [← hl]
    exact Heap.get?_push_size _ rfl
  show wpAny _ _ (callWith cpos (.builtin "dict.items") [.ref d] [] []) _ X.xe s
  exact method_meetsIn F.slot_dict_items F.entry_dict_items rfl (PySem.evalArgs_none ⟨rfl, hm.typeIs, F.args_dict_items_1 _, _, meets_dict_items_raw d D.low, ⟨es, n, hm⟩, fin⟩)
/-- d[e] -/
theorem re_tab {f : FE} (T : KTab X.K X.w d kvs) (hg : Gl X x) (hm : X.mg x = some (.ref d)) (hi : RE G X W i f) (hs : NoSl i := by intro _ _; rfl) (hd : (x == ("__debug__" : Str)) = false := by decide) : RE G X W (.Subscript (.Name x p) i pos) (wUn (dTab kvs) f) := by
  refine ⟨PE.imp (pe_tab T hg hm hi.pe hs hd) fun σ H Q ⟨w, S, ρ, ok, en, q⟩ => ?_, lf_mon _⟩
  have q : out (wUn (dTab kvs) f ρ S) (Qv G w H Q) (Qx G w H fun c d H' => W c d σ H') := q
  unfold wUn at q
  rw [out_bind] at q
  refine ⟨w, S, ρ, ok, en, out_mono q (fun dd S1 q v w1 H1 x1 k1 r1 => ?_) fun _ _ z => z⟩
  unfold dTab at q
  split at q
  · rename_i z
    split at q
    · rename_i y l
      exact ⟨z, y, rep_str.mp r1, l, q (.str y) w1 H1 x1 k1 (rep_str.mpr rfl)⟩
    · exact q.elim
  · exact q.elim
/-- for a, b in d.items() -/
def tabD (kvs : List (Str × Str)) : List D := kvs.map fun q => .p (.tup [.str q.1, .str q.2])
def wTabI (kvs : List (Str × Str)) (r : Rho) (S : Store) : O (List D) := .ok (tabD kvs) S
theorem wTabI_e {kvs : List (Str × Str)} {r : Rho} {S : Store} : wTabI kvs r S = .ok (tabD kvs) S := (rfl)
theorem ri_tab (T : KTab X.K X.w d kvs) (hg : Gl X x) (hm : X.mg x = some (.ref d)) (hd : (x == ("__debug__" : Str)) = false := by decide) (hbase : attributeBase (.Name x p) "items" X.env (eval (.Name x p) X.env) = eval (.Name x p) X.env := by rfl) (hline : (apos.endLine == cpos.line) = true := by rfl) :
    RI G X W (.Tuple elts kk tpos) (.Call (.Attribute (.Name x p) "items" apos) [] [] cpos) (wTabI kvs) := by
  refine RI.of' (pi_tab T hg hm hd hbase hline) fun σ H R ⟨w, S, ρ, ok, en, q⟩ => ?_
  have q : ∀ J w' H', Ext w H w' H' → Wok G w' S H' → IterOf G w' J (tabD kvs) → R J H' := q
  refine q _ w H (Ext.refl _ _) ok ?_
  unfold IterOf
  rw [show (tabD kvs).length = kvs.length by simp [tabD]]
  refine ⟨fun i H2 hi s => hi, fun H2 s => Nat.le_refl _, fun i H2 v H3 hi s y => ?_⟩
  obtain ⟨T, k, v', e1, e2, e3, e4⟩ := y
  refine ⟨.p (.tup [.str k, .str v']), by simp [tabD, e1], .inr ⟨T, _, _, rfl, e2, e3, e4, ?_⟩⟩
  exact Reps.cons (by simp only [Rep]) (Reps.cons (by simp only [Rep]) Reps.nil)
/-- d.get(e, f), d a dict of this place -/
def dGet2 (d k z : D) (S : Store) : O D := match keyOf k with
  | some ky => match d with
    | .p (.dK ks vs) => match klook ks vs ky with
      | some q => .ok (.p q) S
      | none => .ok z S
    | _ => .bad
  | none => .bad
def get2K2 (d k z : D) (S3 : Store) : O D := dGet2 d k z S3
def get2K1 (f2 : FE) (r : Rho) (d k : D) (S2 : Store) : O D := (f2 r S2).bind (get2K2 d k)
def get2K (f1 f2 : FE) (r : Rho) (d : D) (S1 : Store) : O D := match d with
  | .p (.dK _ _) => (f1 r S1).bind (get2K1 f2 r d)
  | _ => .bad
def wGet2 (f0 f1 f2 : FE) (r : Rho) (S : Store) : O D := (f0 r S).bind (get2K f1 f2 r)
theorem wGet2_e {f0 f1 f2 : FE} {r : Rho} {S : Store} : wGet2 f0 f1 f2 r S = (f0 r S).bind (get2K f1 f2 r) := (rfl)
theorem get2K_e {f1 f2 : FE} {r : Rho} {S : Store} {ks : List Key} {vs : List RB.P} : get2K f1 f2 r (.p (.dK ks vs)) S = (f1 r S).bind (get2K1 f2 r (.p (.dK ks vs))) := (rfl)
theorem klook_no {I : Hp} : ∀ {kvs : List (Key × V)} {ks : List Key} {vs : List RB.P} {k : Key}, kvs.map (·.1) = ks → Reps G I (kvs.map (·.2)) vs → klook ks vs k = none → valV kvs k = none
  | [], _, _, _, h1, h2, h => rfl
  | (k', v) :: r, _, [], k, h1, h2, h => by simp [Reps] at h2
  | (k', v) :: r, _, q :: vs, k, h1, h2, h => by
    subst h1
    simp only [List.map_cons, Reps, List.cons.injEq] at h2
    obtain ⟨v', r', ⟨rfl, rfl⟩, h3, h4⟩ := h2
    simp only [List.map_cons, klook] at h
    by_cases c : k' = k
    · rw [if_pos c] at h
      cases h
    · rw [if_neg c] at h
      have z := klook_no rfl h4 h
      simp only [valV] at z ⊢
      rw [List.find?_cons]
      have : decide (k' = k) = false := decide_eq_false c
      simp only [this]
      exact z
theorem re_get2 {o e f : Expr} {f0 f1 f2 : FE} (hu : X.A.units + 1 < cLine) (ho : RE G X W o f0) (he : RE G X W e f1) (hf : RE G X W f f2) (m : M2 X o "get" apos e f cpos) : RE G X W (.Call (.Attribute o "get" apos) [e, f] [] cpos) (wGet2 f0 f1 f2) := by
  refine ⟨PE.imp (pe_dget2 hu ho.pe he.pe hf.pe m) fun σ H Q ⟨w, S, ρ, ok, en, q⟩ => ?_, lf_mon _⟩
  have q : out (wGet2 f0 f1 f2 ρ S) (Qv G w H Q) (Qx G w H fun c d H' => W c d σ H') := q
  unfold wGet2 at q
  rw [out_bind] at q
  refine ⟨w, S, ρ, ok, en, out_mono q (fun d S1 q v w1 H1 x1 k1 r1 => ?_) fun _ _ z => z⟩
  unfold get2K at q
  split at q
  · rename_i ks vs
    rw [out_bind] at q
    simp only [RepD, Rep] at r1
    obtain ⟨a, kvs, rfl, z, h1, h2⟩ := r1
    refine ⟨a, rfl, .inl ⟨kvs, .inl (k1.sub _ _ z)⟩, w1, S1, ρ, k1, en.mono x1, out_mono q (fun d2 S2 q y w2 H2 x2 k2 r2 => ?_) fun x S' q => q.ext x1⟩
    unfold get2K1 at q
    rw [out_bind] at q
    refine ⟨w2, S2, ρ, k2, (en.mono x1).mono x2, out_mono q (fun d3 S3 q y3 w3 H3 x3 k3 r3 => ?_) fun x S' q => (q.ext x1).ext x2⟩
    unfold get2K2 dGet2 at q
    split at q
    · rename_i ky e
      have ey := keyOf_ok r2 e
      subst ey
      dsimp only at q
      have z3 := k3.sub _ _ (x3.I _ _ (x2.I _ _ z))
      refine ⟨valV kvs ky, DGet.k z3, ?_⟩
      split at q
      · rename_i p e2
        obtain ⟨v, h3, h4⟩ := klook_ok h1 h2 e2
        rw [h3]
        exact q v w3 H3 (x1.trans (x2.trans x3)) k3 (h4.mono (fun b o y => x3.I _ _ (x2.I _ _ y)))
      · rename_i e2
        rw [klook_no h1 h2 e2]
        exact q y3 w3 H3 (x1.trans (x2.trans x3)) k3 r3
    · exact q.elim
  · exact q.elim
end
/-! ### list(text) -/
theorem vals_signs : ∀ (cs : List Nat) (us : List Value), us.length = cs.length → (∀ (j : Nat) v, us[j]? = some v → ∃ c u, cs[j]? = some c ∧ v = Value.str ⟨#[c]⟩ u) → Vals (cs.map fun c => V.str ⟨#[c]⟩) us
  | [], [], _, _ => .nil
  | [], _ :: _, h, _ => by simp at h
  | _ :: _, [], h, _ => by simp at h
  | c :: cs, u :: us, h, g => by
    obtain ⟨c', t, e1, e2⟩ := g 0 u rfl
    cases e1
    exact .cons ⟨t, e2⟩ (vals_signs cs us (by simpa using h) fun j v q => g (j + 1) v q)
section
variable {G : Glob} {X : Cx}
theorem call_list_txt (hc : X.calm = true) : CallR X (.type "list") (fun xs H Q => ∃ z : Str, xs = [.str z] ∧ z.cps.size ≤ sizeLine ∧ ∀ l, H l = none → Q (.ref l) (upd H l (.lst (z.cps.toList.map fun c => V.str ⟨#[c]⟩)))) := by
  intro pins s σ H xs us Q I r h
  obtain ⟨z, rfl, hz, q⟩ := h
  obtain ⟨u, rfl, t, rfl⟩ := vals1 r
  refine call_list_str (I.ok.hd hc) z t (fun h' tk acc' c' kp e hacc => ?_) hz
  have va : Vals (z.cps.toList.map fun c => V.str ⟨#[c]⟩) acc'.toList := by
    refine vals_signs _ _ (by simp [hacc.1]) fun j v hv => ?_
    obtain ⟨c, u, e1, e2⟩ := hacc.2 j v (by simpa using hv)
    exact ⟨c, u, by simpa using e1, e2⟩
  exact ⟨.ref s.heap.objs.size, _, I.laid (t' := tk) kp (Nat.le_refl _) (show ObjOk X.prog X.w _ h' _ (.lst _) from ⟨by simpa using hz, acc'.toList, c', va, by simpa using e⟩), rfl, q _ (I.hok.fresh (Nat.le_refl _))⟩
def dListS (d : D) (S : Store) : O D := match d with
  | .p (.str z) => chk (decide (z.cps.size ≤ sizeLine)) (.p (.lst (z.cps.toList.map fun c => RB.P.str ⟨#[c]⟩))) S
  | _ => .bad
theorem reps_signs {I : Hp} : ∀ cs : List Nat, Reps G I (cs.map fun c => V.str ⟨#[c]⟩) (cs.map fun c => RB.P.str ⟨#[c]⟩)
  | [] => Reps.nil
  | c :: cs => Reps.cons (by simp only [Rep]) (reps_signs cs)
theorem cl_listS (hc : X.calm = true) : CallL G X (.type "list") (b1 dListS) := by
  refine CallL.f1 (d := fun d S Q => match d with
    | .p (.str z) => z.cps.size ≤ sizeLine ∧ Q (.p (.lst (z.cps.toList.map fun c => RB.P.str ⟨#[c]⟩))) S
    | _ => False) (CallL.mk1 (call_list_txt hc) (fun x H Q w S d k r q => ?_) fun d S Q Q' hq q => ?_) fun d S Q E h => ?_
  · split at q
    · rename_i z
      exact ⟨z, by rw [rep_str.mp r], q.1, fun l hl => new_lst k q.2 (reps_signs _) hl⟩
    · exact q.elim
  · split at q
    · exact ⟨q.1, hq _ _ q.2⟩
    · exact q.elim
  · unfold dListS at h
    split at h
    · have q := out_chk h
      exact ⟨of_decide_eq_true q.1, q.2⟩
    · exact h.elim
end
/-! ### the head, with dicts of the top -/
/-- a world's habit with text keys, told -/
def ftx (b : Bool) (ft : String → Bool) : String → Bool := fun r => if r == "special-get-raises" then b else ft r
theorem world_cases {p : World → Prop} (h : ∀ (b : Bool) (d : Source → Nat → Nat) (P : Params), p ⟨d, { P with followText := ftx b P.followText }⟩) (w : World) : p w := by
  obtain ⟨d, P⟩ := w
  have e : ftx (P.followText "special-get-raises") P.followText = P.followText := by
    funext r
    unfold ftx
    by_cases c : r = "special-get-raises"
    · subst c
      simp
    · rw [if_neg (by simpa using c)]
  have := h (P.followText "special-get-raises") d P
  rw [e] at this
  exact this
def dObs (ts : List He.Tab) (K : PySem.W.Frag) : List (Option (List (Option (Str × Int)))) := ts.map fun t => He.dicW K (t.1 K)
def dVal (ts : List He.Tab) (w : World) : List (Option (List (Option (Str × Int)))) := ts.map fun t => some (He.keysIn w.params t.2)
abbrev AlX : Type := (He.AlD × Bool) × List (Option (List (Option (Str × Int))))
def obsDG (n : Nat) (fa : List He.Fa) (fn : List He.DefD) (ck : PySem.W.Frag → Bool) (ts : List He.Tab) (g : Addr → Option Obj) : AlX := (obsNG n fa fn ck g, dObs ts (He.frG g (List.range n)))
def hookD (n : Nat) (fa : List He.Fa) (fn : List He.DefD) (ck : PySem.W.Frag → Bool) (ts : List He.Tab) : PySem.W.Hook where
  α := AlX
  obs := fun s => obsDG n fa fn ck ts s.heap.get?
  val := fun w => ((He.valD fn, true), dVal ts w)
  says := fun w h => ∃ K : PySem.W.Frag, K.In h ∧ He.SaysD fa fn K ∧ KSys K ∧ ck K = true ∧ dObs ts K = dVal ts w
  of := fun _ _ e => ⟨_, He.frG_in, congrArg Prod.fst (congrArg Prod.fst e), Option.isSome_iff_exists.mp (and2 (congrArg Prod.snd (congrArg Prod.fst e))).1, (and2 (congrArg Prod.snd (congrArg Prod.fst e))).2, congrArg Prod.snd e⟩
  keeps := fun _ _ _ ⟨K, hK, c⟩ k => ⟨K, PySem.W.Frag.In.keeps hK k, c⟩
theorem obsDG_eq {n : Nat} {fa : List He.Fa} {fn : List He.DefD} {ck : PySem.W.Frag → Bool} {ts : List He.Tab} {g : Addr → Option Obj} {s : Shared} (h : ∀ a, g a = s.heap.get? a) : obsDG n fa fn ck ts g = (hookD n fa fn ck ts).obs s := by
  have e : g = s.heap.get? := funext h
  rw [e]
  rfl
theorem dObs_at {ts : List He.Tab} {K : PySem.W.Frag} {w : World} (c : dObs ts K = dVal ts w) (i : Nat) {t : He.Tab} (h : ts[i]? = some t := by rfl) : ∃ es n, KDict K w (t.1 K) es n := by
  have e2 : (dObs ts K)[i]? = (dVal ts w)[i]? := by rw [c]
  unfold dObs dVal at e2
  rw [List.getElem?_map, List.getElem?_map, h] at e2
  exact He.dicW_ok (Option.some.inj e2)
def tabB (K : PySem.W.Frag) (a : Addr) (kvs : List (Str × Str)) : Bool := match K.lookup a with
  | some ⟨_, _, .dict es _, _⟩ => decide (es.toList.map entB = kvs.map some)
  | _ => false
theorem tabB_ok {K : PySem.W.Frag} {w : World} {a : Addr} {kvs : List (Str × Str)} (d : ∃ es n, KDict K w a es n) (h : tabB K a kvs = true) : KTab K w a kvs := by
  obtain ⟨es, n, D⟩ := d
  unfold tabB at h
  rw [D.at_] at h
  exact ⟨es, n, D, of_decide_eq_true h⟩
end RB.F
/-! All running rules, as one fact. -/
namespace RB.F
open PySem PySem.Spec PyProof.Rows L2 RB
def evs := And.intro @RB.F.wSeq.eq_1
  (And.intro @RB.F.wRet_e
  (And.intro @RB.F.retK.eq_1
  (And.intro @RB.F.wRetN.eq_1
  (And.intro @RB.F.wDrop_e
  (And.intro @RB.F.dropK.eq_1
  (And.intro @RB.F.wSet_e
  (And.intro @RB.F.setK.eq_1
  (And.intro @RB.F.wNext.eq_1
  (And.intro @RB.F.wIfS_e
  (And.intro @RB.F.ifK.eq_1
  (And.intro @RB.F.wBreak.eq_1
  (And.intro @RB.F.wCont.eq_1
  (And.intro @RB.F.wFor_e
  (And.intro @RB.F.forK.eq_1
  (And.intro @RB.F.wVar.eq_1
  (And.intro @RB.F.wC.eq_1
  (And.intro @RB.F.wBin_e
  (And.intro @RB.F.binK.eq_1
  (And.intro @RB.F.wUn.eq_1
  (And.intro @RB.F.wNil.eq_1
  (And.intro @RB.F.wCons_e
  (And.intro @RB.F.consK.eq_1
  (And.intro @RB.F.consK2.eq_1
  (And.intro @RB.F.wCB.eq_1
  (And.intro @RB.F.wCall0.eq_1
  (And.intro @RB.F.wCallK_e
  (And.intro @RB.F.callKK_e
  (And.intro @RB.F.wTest_e
  (And.intro @RB.F.testK_e
  (And.intro @RB.F.wAnd_e
  (And.intro @RB.F.andK.eq_1
  (And.intro @RB.F.wOr_e
  (And.intro @RB.F.orK.eq_1
  (And.intro @RB.F.wNot_e
  (And.intro @RB.F.notK.eq_1
  (And.intro @RB.F.wAndV_e
  (And.intro @RB.F.andVK_t
  (And.intro @RB.F.andVK_f
  (And.intro @RB.F.wOrV_e
  (And.intro @RB.F.orVK_t
  (And.intro @RB.F.orVK_f
  (And.intro @RB.F.wNotV_e
  (And.intro @RB.F.notVK_e
  (And.intro @RB.F.wIf_e
  (And.intro @RB.F.ifEK.eq_1
  (And.intro @RB.F.wChain_e
  (And.intro @RB.F.chK1.eq_1
  (And.intro @RB.F.chK2.eq_1
  (And.intro @RB.F.chK3_t
  (And.intro @RB.F.chK3_f
  (And.intro @RB.F.wDisp_e
  (And.intro @RB.F.dispK.eq_1
  (And.intro @RB.F.wNewL_e
  (And.intro @RB.F.newK.eq_1
  (And.intro @RB.F.wSl_e
  (And.intro @RB.F.slK.eq_1
  (And.intro @RB.F.slK1.eq_1
  (And.intro @RB.F.slK2_e
  (And.intro @RB.F.wNoP.eq_1
  (And.intro @RB.F.wPart_e
  (And.intro @RB.F.partK_e
  (And.intro @RB.F.wIt_e
  (And.intro @RB.F.itK.eq_1
  (And.intro @RB.F.wRng_e
  (And.intro @RB.F.rngK_1
  (And.intro @RB.F.rngK_2
  (And.intro @RB.F.wYes.eq_1
  (And.intro @RB.F.wLC_e
  (And.intro @RB.F.lcK.eq_1
  (And.intro @RB.F.lstK.eq_1
  (And.intro @RB.F.wDNew.eq_1
  (And.intro @RB.F.wPairs.eq_1
  (And.intro @RB.F.wPairs.eq_2
  (And.intro @RB.F.wDict_e
  (And.intro @RB.F.dictK.eq_1
  (And.intro @RB.F.wPut3_e
  (And.intro @RB.F.putK.eq_1
  (And.intro @RB.F.putK1.eq_1
  (And.intro @RB.F.putK2.eq_1
  (And.intro @RB.F.nextK.eq_1
  (And.intro @RB.F.wFSet_e
  (And.intro @RB.F.fsetK.eq_1
  (And.intro @RB.F.fsetK1.eq_1
  (And.intro @RB.F.wPar2_e
  (And.intro @RB.F.par2K_e
  (And.intro @RB.F.wPar3_e
  (And.intro @RB.F.par3K_e
  (And.intro @RB.F.wAsgT_e
  (And.intro @RB.F.asgK.eq_1
  (And.intro @RB.F.wRaise_e
  (And.intro @RB.F.raiseK.eq_1
  (And.intro @RB.F.wTry.eq_1
  (And.intro @RB.F.wPick.eq_1
  (And.intro @RB.F.wPick.eq_2
  (And.intro @RB.F.wJoin_e
  (And.intro @RB.F.joinK_e
  (And.intro @RB.F.joinK2_e
  (And.intro @RB.F.wIsi2_e
  (And.intro @RB.F.isi2K.eq_1
  (And.intro @RB.F.wBM_e
  (And.intro @RB.F.bmK.eq_1
  (And.intro @RB.F.wMake_e
  (And.intro @RB.F.makeK.eq_1
  (And.intro @RB.F.makeK2.eq_1
  (And.intro @RB.F.pk.eq_1
  (And.intro @RB.F.wRevL.eq_1
  (And.intro @RB.F.revK.eq_1
  (And.intro @RB.F.wStar.eq_1
  (And.intro @RB.F.starK.eq_1
  (And.intro @RB.F.starK2.eq_1
  (And.intro @RB.F.wAsgS.eq_1
  (And.intro @RB.F.asgSK.eq_1
  (And.intro @RB.F.asgSK.eq_2
  (And.intro @RB.F.wAug.eq_1
  (And.intro @RB.F.augK.eq_1
  (And.intro @RB.F.augK2.eq_1
  (And.intro @RB.F.dIAdd.eq_1
  (And.intro @RB.F.dIAdd.eq_2
  (And.intro @RB.F.dIAdd.eq_3
  (And.intro @RB.F.wMeth_e
  (And.intro @RB.F.methK2_e
  (And.intro @RB.F.wFrz.eq_1
  (And.intro @RB.F.wZip_e
  (And.intro @RB.F.zipK.eq_1
  (And.intro @RB.F.zipK.eq_2
  (And.intro @RB.F.wEnum_e
  (And.intro @RB.F.enumK_e
  (And.intro @RB.F.wBM0.eq_1
  (And.intro @RB.F.bm0K.eq_1
  (And.intro @RB.F.wRngN.eq_1
  (And.intro @RB.F.rngNK_e
  (And.intro @RB.F.wRngW.eq_1
  (And.intro @RB.F.rngWK_e
  (And.intro @RB.F.dInsert.eq_1
  (And.intro @RB.F.dInsert.eq_2
  (And.intro @RB.F.dClear.eq_1
  (And.intro @RB.F.dClear.eq_2
  (And.intro @RB.F.dCon.eq_1
  (And.intro @RB.F.wJs_n
  (And.intro @RB.F.wJs_e
  (And.intro @RB.F.jsK_s
  (And.intro @RB.F.jsC_t
  (And.intro @RB.F.dStr.eq_1
  (And.intro @RB.F.dStr.eq_2
  (And.intro @RB.F.dMulS.eq_1
  (And.intro @RB.F.dMulS.eq_2
  (And.intro @RB.F.dFmt.eq_1
  (And.intro @RB.F.dFmt.eq_2
  (And.intro @RB.F.dFmt.eq_3
  (And.intro @RB.F.dFmtS.eq_1
  (And.intro @RB.F.dFmtS.eq_2
  (And.intro @RB.F.wListRg.eq_1
  (And.intro @RB.F.lrK.eq_1
  (And.intro @RB.F.lrK2_e
  (And.intro @RB.F.wLCC.eq_1
  (And.intro @RB.F.lcKC.eq_1
  (And.intro @RB.F.lstKC.eq_1
  (And.intro @RB.F.wTabI_e
  (And.intro @RB.F.wGet2_e
  (And.intro @RB.F.get2K_e
  (And.intro @RB.F.get2K1.eq_1
  (And.intro @RB.F.get2K2.eq_1
  (And.intro @RB.F.dListS.eq_1
  (And.intro @RB.F.dListS.eq_2
  (And.intro @RB.F.bind_ok
  (And.intro @RB.F.bind_ex
  (And.intro @RB.F.bind_bad
  (And.intro @RB.F.st_ok
  (And.intro @RB.F.st_ex
  (And.intro @RB.F.st_bad
  (And.intro @RB.F.seq_nx
  (And.intro @RB.F.seq_rt
  (And.intro @RB.F.seq_bk
  (And.intro @RB.F.seq_ct
  (And.intro @RB.F.seq_ex
  (And.intro @RB.F.seq_bad
  (And.intro @RB.F.fin_nx
  (And.intro @RB.F.fin_rt
  (And.intro @RB.F.fin_ex
  (And.intro @RB.F.try_ex
  (And.intro @RB.F.try_nx
  (And.intro @RB.F.try_rt
  (And.intro @RB.F.gone_nx
  (And.intro @RB.F.gone_rt
  (And.intro @RB.F.chk_true
  (And.intro @RB.F.chkA_true
  (And.intro @RB.F.more_nx
  (And.intro @RB.F.more_ct
  (And.intro @RB.F.more_bk
  (And.intro @RB.F.more_rt
  (And.intro @RB.F.more_ex
  (And.intro @RB.F.forF_nil
  (And.intro @RB.F.forF_cons
  (And.intro @RB.F.b1_1
  (And.intro @RB.F.b2_2
  (And.intro @RB.F.dInt.eq_1
  (And.intro @RB.F.dInt.eq_2
  (And.intro @RB.F.dAdd_i
  (And.intro @RB.F.dAdd_s
  (And.intro @RB.F.dAdd_t
  (And.intro @RB.F.dAdd_l
  (And.intro @RB.F.dAdd_cl
  (And.intro @RB.F.dAdd_lc
  (And.intro @RB.F.addL_s
  (And.intro @RB.F.dNeg.eq_1
  (And.intro @RB.F.dNeg.eq_2
  (And.intro @RB.F.dToInt.eq_1
  (And.intro @RB.F.dToInt.eq_2
  (And.intro @RB.F.dToInt.eq_3
  (And.intro @RB.F.dI1.eq_1
  (And.intro @RB.F.dI1.eq_2
  (And.intro @RB.F.dIsN.eq_1
  (And.intro @RB.F.dIsN.eq_2
  (And.intro @RB.F.dIsN.eq_3
  (And.intro @RB.F.dIsN.eq_4
  (And.intro @RB.isNon.eq_1
  (And.intro @RB.isNon.eq_2
  (And.intro @RB.F.dLen_s
  (And.intro @RB.F.dLen_t
  (And.intro @RB.F.dLen_l
  (And.intro @RB.F.dLen_r
  (And.intro @RB.F.dLen_c
  (And.intro @RB.F.lenL_s
  (And.intro @RB.F.dQ1.eq_1
  (And.intro @RB.F.dIsi.eq_1
  (And.intro @RB.F.dIsi.eq_2
  (And.intro @RB.F.dIx_s
  (And.intro @RB.F.dIx_t
  (And.intro @RB.F.dIx_l
  (And.intro @RB.F.dIx_r
  (And.intro @RB.F.dIx_c
  (And.intro @RB.F.ixO_s
  (And.intro @RB.F.ixC_s
  (And.intro @RB.F.ixL_s
  (And.intro @RB.F.dMul.eq_1
  (And.intro @RB.F.dMul.eq_2
  (And.intro @RB.F.dMul.eq_3
  (And.intro @RB.F.dLPut.eq_1
  (And.intro @RB.F.dLPut.eq_2
  (And.intro @RB.F.dFSet.eq_1
  (And.intro @RB.F.dFSet.eq_2
  (And.intro @RB.F.dIsK.eq_1
  (And.intro @RB.F.dAppend.eq_1
  (And.intro @RB.F.dAppend.eq_2
  (And.intro @RB.F.dSl_s
  (And.intro @RB.F.dSl_t
  (And.intro @RB.F.dSl_l
  (And.intro @RB.F.dSl_r
  (And.intro @RB.F.dSl_c
  (And.intro @RB.F.slL_s
  (And.intro @RB.F.dBls.eq_1
  (And.intro @RB.F.dSum.eq_1
  (And.intro @RB.F.dJoin_e
  (And.intro @RB.F.joinO_s
  (And.intro @RB.F.dInS.eq_1
  (And.intro @RB.F.dInS.eq_2
  (And.intro @RB.F.frz.eq_1
  (And.intro @RB.F.frz.eq_2
  (And.intro @RB.F.frz.eq_3
  (And.intro @RB.F.mkF_ex
  (And.intro @RB.F.mkF_ok
  (And.intro @RB.allP.eq_1
  (And.intro @RB.allP.eq_2
  (And.intro @RB.allP.eq_3
  (And.intro @RB.allP.eq_4
  (And.intro @RB.F.asL_l
  (And.intro @RB.F.asL_r
  (And.intro @RB.F.asL_c
  (And.intro @RB.F.asL_t
  (And.intro @RB.F.asL_z
  (And.intro @RB.F.asL_n
  (And.intro @RB.F.asL_i
  (And.intro @RB.F.asL_b
  (And.intro @RB.F.asL_d
  (And.intro @RB.F.cellL_s
  (And.intro @RB.F.asQ_t
  (And.intro @RB.F.asQ_l
  (And.intro @RB.F.asQ_r
  (And.intro @RB.F.asQ_c
  (And.intro @RB.F.asM_l
  (And.intro @RB.F.asM_c
  (And.intro @RB.itemsOf.eq_1
  (And.intro @RB.itemsOf.eq_2
  (And.intro @RB.itemsOf.eq_3
  (And.intro @RB.itemsOf.eq_4
  (And.intro @RB.itemsOf.eq_5
  (And.intro @RB.tyS.eq_1
  (And.intro @RB.tyS.eq_2
  (And.intro @RB.tyS.eq_3
  (And.intro @RB.tyS.eq_4
  (And.intro @RB.tyS.eq_5
  (And.intro @RB.tyS.eq_6
  (And.intro @RB.tyS.eq_7
  (And.intro @RB.tyS.eq_8
  (And.intro @RB.tyS.eq_9
  (And.intro @RB.tyS.eq_10
  (And.intro @RB.isB.eq_1
  (And.intro @RB.keyOf.eq_1
  (And.intro @RB.keyOf.eq_2
  (And.intro @RB.keyOf.eq_3
  (And.intro @RB.seqD.eq_1
  (And.intro @RB.seqD.eq_2
  (And.intro @RB.seqD.eq_3
  (And.intro @RB.seqD.eq_4
  (And.intro @RB.tyN.eq_1
  (And.intro @RB.kvsOf.eq_1
  (And.intro @RB.kvsOf.eq_2
  (And.intro @RB.kvsOf.eq_3
  (And.intro @RB.kvsOf.eq_4
  (And.intro @RB.zipP.eq_1
  (And.intro @RB.zipP.eq_2
  (And.intro @RB.zipP.eq_3
  (And.intro @RB.bindT.eq_1
  (And.intro @RB.bindT.eq_2
  (And.intro @RB.bindT.eq_3
  (And.intro @RB.setAll.eq_1
  (And.intro @RB.setAll.eq_2
  (And.intro @RB.wipeR.eq_1
  (And.intro @RB.wipeR.eq_2
  (And.intro @RB.F.cut_p
  (And.intro @RB.F.take_len
  (And.intro @RB.F.get_app
  (And.intro @RB.F.set_app
  (And.intro @RB.F.take_app
  (And.intro @RB.F.take_app2
  (And.intro @RB.F.take_len_cons
  (And.intro @RB.F.of_inj
  (And.intro @RB.fputN.eq_1
  (And.intro @RB.fputN.eq_2
  (And.intro @RB.fputV.eq_1
  (And.intro @RB.fputV.eq_2
  (And.intro @RB.flook.eq_1
  (And.intro @RB.flook.eq_2
  (And.intro @Bool.not_true
  (And.intro @Bool.not_false
  (And.intro @Bool.and_true
  (And.intro @Bool.true_and
  (And.intro @Bool.or_false
  (And.intro @Bool.false_or
  (And.intro @Bool.or_true
  (And.intro @Bool.true_or
  (And.intro @Bool.and_false
  (And.intro @Bool.false_and
  (And.intro @Bool.not_not
  (And.intro @decide_true
  (And.intro @decide_false
  (And.intro @Bool.false_eq_true
  (And.intro @and_self
  (And.intro @and_true
  (And.intro @true_and
  (And.intro @and_false
  (And.intro @false_and
  (And.intro @not_true_eq_false
  (And.intro @not_false_eq_true
  (And.intro @Bool.true_eq_false
  (And.intro @RB.F.sz
  (And.intro @RB.F.eq_ii
  (And.intro @RB.F.ne_ii
  (And.intro @RB.F.atI0
  (And.intro @RB.F.atI1
  (And.intro @RB.F.atI2
  (And.intro @RB.F.atI3
  (And.intro @RB.F.atI4
  (And.intro @RB.F.nat10
  (And.intro @RB.F.nat2
  (@RB.F.nat64))))))))))))))))))))))))))))))))))))))))))))))))))))))))))))))))))))))))))))))))))))))))))))))))))))))))))))))))))))))))))))))))))))))))))))))))))))))))))))))))))))))))))))))))))))))))))))))))))))))))))))))))))))))))))))))))))))))))))))))))))))))))))))))))))))))))))))))))))))))))))))))))))))))))))))))))))))))))))))))))))))))))))))))))))))))))))))))))))))))))))))))
def evo := And.intro @RB.F.dAttr.eq_1
  (And.intro @RB.F.methK.eq_1
  (And.intro @RB.objOf.eq_1
  (And.intro @RB.objOf.eq_2
  (@RB.objOf.eq_3))))
end RB.F
namespace RB.F
open PySem PySem.Spec PyProof.Rows L2 RB
abbrev cs_word : List String := ["ParseError"]
abbrev csp_word : List String := []
abbrev cs_line : List String := ["ParseError"]
abbrev csp_line : List String := []
def exm_ParseError : String → Bool := fun y => y == "ParseError"
abbrev kinds : List String := ["ParseError", "NoneType", "bool", "int", "str", "tuple", "list", "dict"]
def is_ValueError : String → Bool := fun y => y == "ParseError"
abbrev tab_SIGNS : List (Str × Str) := [((Str.ofString "lay"), (Str.ofString "+")), ((Str.ofString "cut"), (Str.ofString "~")), ((Str.ofString "dike"), (Str.ofString "#"))]
abbrev N_is_name : List Str := [(Str.ofString "value"), (Str.ofString "sign")]
abbrev ps_is_name : List Str := [(Str.ofString "value")]
def f_is_name_1 : FE := wBin (dInS false) (wVar 1) (wC (.p (.str (Str.ofString "abcdefghijklmnopqrstuvwxyz"))))
def f_is_name : FS :=
  (wSeq (wIfS (wOr (wNot (wTest (wCB (b2 dIsi) (wCons (wVar 0) (wCons (wC (.p (.ty "str"))) wNil))))) (wNot (wTest (wChain dLe dLe (wC (.p (.int 1))) (wCB (b1 dLen) (wCons (wVar 0) wNil)) (wC (.p (.int 8))))))) (wRet (wC (.p (.bl false)))) wNext)
  (wRet (wCB (b1 dAll) (wCons (wLC (wIt (wVar 0)) (.nm 1) wYes f_is_name_1 [1]) wNil))))
def m_is_name : FD := fnF N_is_name ps_is_name f_is_name
theorem m_is_name_e (a0 : D) (S : Store) : m_is_name [a0] S = finF S.length (f_is_name [some a0, none] S) := (rfl)
abbrev N_order_text : List Str := [(Str.ofString "order"), (Str.ofString "kind"), (Str.ofString "name")]
abbrev ps_order_text : List Str := [(Str.ofString "order")]
def f_order_text_E1 : FE := wBin dAdd (wUn (dTab tab_SIGNS) (wVar 1)) (wVar 2)
def f_order_text_L1 : FS := wRet (wJoin (wC (.p (.str (Str.ofString " ")))) (wLC (wIt (wVar 0)) (.tp [1, 2]) wYes f_order_text_E1 [1, 2]))
def f_order_text : FS :=
  f_order_text_L1
def m_order_text : FD := fnF N_order_text ps_order_text f_order_text
theorem m_order_text_e (a0 : D) (S : Store) : m_order_text [a0] S = finF S.length (f_order_text [some a0, none, none] S) := (rfl)
abbrev N_item_in : List Str := [(Str.ofString "word"), (Str.ofString "kinds"), (Str.ofString "kind"), (Str.ofString "sign")]
abbrev ps_item_in : List Str := [(Str.ofString "word")]
def f_item_in_E1 : FE := wVar 2
def f_item_in_T1 : FT := wTest (wBin (dEqv false) (wSl (wVar 0) wNoP (wPart (wC (.p (.int 1))))) (wVar 3))
def f_item_in_L1 : FS := wSet 1 (wLC (wTabI tab_SIGNS) (.tp [2, 3]) f_item_in_T1 f_item_in_E1 [2, 3])
def f_item_in_L2 : FS := wRet (wIf (wAnd (wTest (wBin (dEqv true) (wVar 1) (wDisp .lst wNil))) (wTest (wCall0 m_is_name (wCons (wSl (wVar 0) (wPart (wC (.p (.int 1)))) wNoP) wNil)))) (wDisp .tup (wCons (wBin dIx (wVar 1) (wC (.p (.int 0)))) (wCons (wSl (wVar 0) (wPart (wC (.p (.int 1)))) wNoP) wNil))) (wC (.p .non)))
def f_item_in : FS :=
  (wSeq f_item_in_L1
  f_item_in_L2)
def m_item_in : FD := fnF N_item_in ps_item_in f_item_in
theorem m_item_in_e (a0 : D) (S : Store) : m_item_in [a0] S = finF S.length (f_item_in [some a0, none, none, none] S) := (rfl)
abbrev N_read_order : List Str := [(Str.ofString "text"), (Str.ofString "found"), (Str.ofString "place"), (Str.ofString "word"), (Str.ofString "item")]
abbrev ps_read_order : List Str := [(Str.ofString "text")]
def f_read_order_L2 : FS := wRaise "ParseError" [(Str.ofString "line"), (Str.ofString "word")] (wCons (wC (.p (.int 0))) (wCons (wC (.p (.int 0))) wNil))
def f_read_order_L1 : FS := wIfS (wNot (wTest (wCB (b2 dIsi) (wCons (wVar 0) (wCons (wC (.p (.ty "str"))) wNil))))) f_read_order_L2 wNext
def f_read_order_L3 : FS := wSet 1 (wNewL wNil)
def f_read_order_L5 : FS := wSet 4 (wCall0 m_item_in (wCons (wVar 3) wNil))
def f_read_order_L7 : FS := wRaise "ParseError" [(Str.ofString "line"), (Str.ofString "word")] (wCons (wC (.p (.int 0))) (wCons (wVar 2) wNil))
def f_read_order_L6 : FS := wIfS (wOr (wTest (wBin (dIsN false) (wVar 4) (wC (.p .non)))) (wTest (wBin (dInD false) (wVar 4) (wVar 1)))) f_read_order_L7 wNext
def f_read_order_L8 : FS := wDrop (wBM "list" dAppend (wVar 1) (wCons (wVar 4) wNil))
def f_read_order_B4 : FS := wSeq f_read_order_L5
  (wSeq f_read_order_L6
  f_read_order_L8)
def f_read_order_L4 : FS := wFor (wEnum (wCons (wIf (wTest (wBin (dEqv true) (wVar 0) (wC (.p (.str (Str.ofString "")))))) (wBM "str" dSplit (wVar 0) (wCons (wC (.p (.str (Str.ofString " ")))) wNil)) (wDisp .lst wNil)) wNil)) (.tp [2, 3]) f_read_order_B4
def f_read_order_L9 : FS := wRet (wVar 1)
def f_read_order : FS :=
  (wSeq f_read_order_L1
  (wSeq f_read_order_L3
  (wSeq f_read_order_L4
  f_read_order_L9)))
def m_read_order : FD := fnF N_read_order ps_read_order f_read_order
theorem m_read_order_e (a0 : D) (S : Store) : m_read_order [a0] S = finF S.length (f_read_order [some a0, none, none, none, none] S) := (rfl)
abbrev N__law_pen : List Str := [(Str.ofString "_law_script")]
abbrev ps__law_pen : List Str := [(Str.ofString "_law_script")]
def f__law_pen_L1 : FS := wRet (wDictC [((wC (.p (.str (Str.ofString "cells")))), (wCB (b1 dListOf) (wCons (wSl (wVar 0) wNoP (wPart (wC (.p (.int 63))))) wNil))), ((wC (.p (.str (Str.ofString "used")))), (wC (.p (.int 0)))), ((wC (.p (.str (Str.ofString "left")))), (wC (.p (.int 0))))])
def f__law_pen : FS :=
  f__law_pen_L1
def m__law_pen : FD := fnF N__law_pen ps__law_pen f__law_pen
theorem m__law_pen_e (a0 : D) (S : Store) : m__law_pen [a0] S = finF S.length (f__law_pen [some a0] S) := (rfl)
abbrev N__law_draw : List Str := [(Str.ofString "_law_pen_here"), (Str.ofString "_law_many"), (Str.ofString "_law_used"), (Str.ofString "_law_cell"), (Str.ofString "_law_blend"), (Str.ofString "_law_digit"), (Str.ofString "_law_total"), (Str.ofString "_law_size")]
abbrev ps__law_draw : List Str := [(Str.ofString "_law_pen_here"), (Str.ofString "_law_many")]
def f__law_draw_L2 : FS := wSet 5 (wBin dMod (wCB (b1 dToInt) (wCons (wBin dDGet (wVar 0) (wC (.p (.str (Str.ofString "left"))))) wNil)) (wVar 1))
def f__law_draw_L3 : FS := wDPut (wVar 0) (wC (.p (.str (Str.ofString "left")))) (wBin dFdiv (wBin dDGet (wVar 0) (wC (.p (.str (Str.ofString "left"))))) (wVar 1))
def f__law_draw_L4 : FS := wRet (wVar 5)
def f__law_draw_L1 : FS := wIfS (wTest (wBin dGt (wBin dDGet (wVar 0) (wC (.p (.str (Str.ofString "left"))))) (wC (.p (.int 0))))) (wSeq f__law_draw_L2
  (wSeq f__law_draw_L3
  f__law_draw_L4)) wNext
def f__law_draw_L5 : FS := wSet 2 (wBin dDGet (wVar 0) (wC (.p (.str (Str.ofString "used")))))
def f__law_draw_L6 : FS := wDPut (wVar 0) (wC (.p (.str (Str.ofString "used")))) (wBin dAdd (wVar 2) (wC (.p (.int 1))))
def f__law_draw_L7 : FS := wSet 3 (wBin dAdd (wBin dMul (wC (.p (.int 53))) (wVar 2)) (wC (.p (.int 19))))
def f__law_draw_L9 : FS := wSet 3 (wBin dIx (wBin dDGet (wVar 0) (wC (.p (.str (Str.ofString "cells"))))) (wBin dMod (wCB (b1 dToInt) (wCons (wVar 2) wNil)) (wCB (b1 dLen) (wCons (wBin dDGet (wVar 0) (wC (.p (.str (Str.ofString "cells"))))) wNil))))
def f__law_draw_L8 : FS := wIfS (wTest (wBin (dEqv true) (wBin dDGet (wVar 0) (wC (.p (.str (Str.ofString "cells"))))) (wDisp .lst wNil))) f__law_draw_L9 wNext
def f__law_draw_L11 : FS := wDPut (wVar 0) (wC (.p (.str (Str.ofString "left")))) (wBin dFdiv (wBin dSub (wCB (b1 dAbs) (wCons (wVar 3) wNil)) (wBin dPow (wC (.p (.int 10))) (wC (.p (.int 18))))) (wVar 1))
def f__law_draw_L12 : FS := wRet (wBin dMod (wBin dSub (wCB (b1 dAbs) (wCons (wVar 3) wNil)) (wBin dPow (wC (.p (.int 10))) (wC (.p (.int 18))))) (wVar 1))
def f__law_draw_L10 : FS := wIfS (wAnd (wTest (wBin dLt (wVar 2) (wCB (b1 dLen) (wCons (wBin dDGet (wVar 0) (wC (.p (.str (Str.ofString "cells"))))) wNil)))) (wTest (wBin dGe (wCB (b1 dAbs) (wCons (wVar 3) wNil)) (wBin dPow (wC (.p (.int 10))) (wC (.p (.int 18))))))) (wSeq f__law_draw_L11
  f__law_draw_L12) wNext
def f__law_draw_L13 : FS := wSet 4 (wBin dAdd (wBin dMul (wBin dMod (wCB (b1 dToInt) (wCons (wVar 3) wNil)) (wC (.p (.int 4294967231)))) (wC (.p (.int 69069157)))) (wBin dMul (wBin dMul (wC (.p (.int 50023))) (wVar 2)) (wVar 2)))
def f__law_draw_L14 : FS := wSet 4 (wBin dMod (wCB (b1 dToInt) (wCons (wBin dAdd (wBin dAdd (wVar 4) (wBin dMul (wC (.p (.int 786431))) (wVar 2))) (wC (.p (.int 31)))) wNil)) (wC (.p (.int 4294967197))))
def f__law_draw_L15 : FS := wPar2 6 7 (wCons (wC (.p (.int 0))) (wCons (wVar 1) wNil))
def f__law_draw_L17 : FS := wSet 4 (wBin dMod (wCB (b1 dToInt) (wCons (wBin dAdd (wBin dAdd (wBin dAdd (wBin dMul (wVar 4) (wVar 4)) (wBin dMul (wC (.p (.int 16769023))) (wVar 4))) (wBin dMul (wC (.p (.int 13))) (wVar 2))) (wC (.p (.int 5)))) wNil)) (wC (.p (.int 4294967189))))
def f__law_draw_L18 : FS := wSet 6 (wBin dAdd (wBin dMul (wVar 6) (wC (.p (.int 67108864)))) (wBin dFdiv (wBin dMod (wCB (b1 dToInt) (wCons (wBin dMul (wVar 4) (wBin dAdd (wVar 4) (wC (.p (.int 28629151))))) wNil)) (wC (.p (.int 4294967279)))) (wC (.p (.int 64)))))
def f__law_draw_L19 : FS := wSet 7 (wBin dFdiv (wVar 7) (wC (.p (.int 67108864))))
def f__law_draw_B16 : FS := wSeq f__law_draw_L17
  (wSeq f__law_draw_L18
  f__law_draw_L19)
def f__law_draw_T16 : FT := wTest (wBin dGt (wVar 7) (wC (.p (.int 0))))
def f__law_draw_L16 : FS := wWhile f__law_draw_T16 f__law_draw_B16
def f__law_draw_L20 : FS := wRet (wBin dMod (wCB (b1 dToInt) (wCons (wVar 6) wNil)) (wVar 1))
def f__law_draw : FS :=
  (wSeq f__law_draw_L1
  (wSeq f__law_draw_L5
  (wSeq f__law_draw_L6
  (wSeq f__law_draw_L7
  (wSeq f__law_draw_L8
  (wSeq f__law_draw_L10
  (wSeq f__law_draw_L13
  (wSeq f__law_draw_L14
  (wSeq f__law_draw_L15
  (wSeq f__law_draw_L16
  f__law_draw_L20))))))))))
def m__law_draw : FD := fnF N__law_draw ps__law_draw f__law_draw
theorem m__law_draw_e (a0 a1 : D) (S : Store) : m__law_draw [a0, a1] S = finF S.length (f__law_draw [some a0, some a1, none, none, none, none, none, none] S) := (rfl)
abbrev N__law_pick : List Str := [(Str.ofString "_law_pen_here"), (Str.ofString "_law_options")]
abbrev ps__law_pick : List Str := [(Str.ofString "_law_pen_here"), (Str.ofString "_law_options")]
def f__law_pick_L1 : FS := wRet (wBin dIx (wVar 1) (wCall0 m__law_draw (wCons (wVar 0) (wCons (wCB (b1 dLen) (wCons (wVar 1) wNil)) wNil))))
def f__law_pick : FS :=
  f__law_pick_L1
def m__law_pick : FD := fnF N__law_pick ps__law_pick f__law_pick
theorem m__law_pick_e (a0 a1 : D) (S : Store) : m__law_pick [a0, a1] S = finF S.length (f__law_pick [some a0, some a1] S) := (rfl)
abbrev N__law_names : List Str := [(Str.ofString "_law_pen_here"), (Str.ofString "_law_many"), (Str.ofString "_law_letters"), (Str.ofString "_law_stem"), (Str.ofString "_law_k"), (Str.ofString "_law_at"), (Str.ofString "_law_first"), (Str.ofString "_law_trim"), (Str.ofString "_law_by"), (Str.ofString "_law_found"), (Str.ofString "_law_tail")]
abbrev ps__law_names : List Str := [(Str.ofString "_law_pen_here"), (Str.ofString "_law_many")]
def f__law_names_L1 : FS := wSet 2 (wC (.p (.str (Str.ofString "abcdefghijklmnopqrstuvwxyz"))))
def f__law_names_E2 : FE := wCall0 m__law_pick (wCons (wVar 0) (wCons (wVar 2) wNil))
def f__law_names_L2 : FS := wSet 3 (wJoin (wC (.p (.str (Str.ofString "")))) (wLC (wRng (wCons (wCall0 m__law_draw (wCons (wVar 0) (wCons (wC (.p (.int 8))) wNil))) wNil)) (.nm 4) wYes f__law_names_E2 [4]))
def f__law_names_L3 : FS := wPar3 5 6 7 (wCons (wCall0 m__law_draw (wCons (wVar 0) (wCons (wBin dAdd (wCB (b1 dLen) (wCons (wVar 3) wNil)) (wC (.p (.int 1)))) wNil))) (wCons (wCall0 m__law_draw (wCons (wVar 0) (wCons (wC (.p (.int 26))) wNil))) (wCons (wCall0 m__law_draw (wCons (wVar 0) (wCons (wC (.p (.int 2))) wNil))) wNil)))
def f__law_names_L4 : FS := wPar2 8 9 (wCons (wCall0 m__law_pick (wCons (wVar 0) (wCons (wDisp .lst (wCons (wC (.p (.int 1))) (wCons (wC (.p (.int 3))) (wCons (wC (.p (.int 5))) (wCons (wC (.p (.int 7))) (wCons (wC (.p (.int 9))) (wCons (wC (.p (.int 11))) (wCons (wC (.p (.int 15))) (wCons (wC (.p (.int 17))) wNil))))))))) wNil))) (wCons (wNewL wNil) wNil))
def f__law_names_L6 : FS := wSet 10 (wIf (wTest (wBin (dEqv false) (wVar 7) (wC (.p (.int 0))))) (wSl (wVar 3) (wPart (wVar 5)) wNoP) (wSl (wSl (wVar 3) (wPart (wVar 5)) wNoP) wNoP (wPart (wBin dMod (wCB (b1 dToInt) (wCons (wVar 4) wNil)) (wC (.p (.int 3)))))))
def f__law_names_L7 : FS := wDrop (wBM "list" dAppend (wVar 9) (wCons (wBin dAdd (wBin dAdd (wSl (wVar 3) wNoP (wPart (wVar 5))) (wBin dIx (wVar 2) (wBin dMod (wCB (b1 dToInt) (wCons (wBin dAdd (wVar 6) (wBin dMul (wVar 8) (wVar 4))) wNil)) (wC (.p (.int 26)))))) (wVar 10)) wNil))
def f__law_names_B5 : FS := wSeq f__law_names_L6
  f__law_names_L7
def f__law_names_L5 : FS := wFor (wRng (wCons (wVar 1) wNil)) (.nm 4) f__law_names_B5
def f__law_names_L8 : FS := wRet (wFrz (wVar 9))
def f__law_names : FS :=
  (wSeq f__law_names_L1
  (wSeq f__law_names_L2
  (wSeq f__law_names_L3
  (wSeq f__law_names_L4
  (wSeq f__law_names_L5
  f__law_names_L8)))))
def m__law_names : FD := fnF N__law_names ps__law_names f__law_names
theorem m__law_names_e (a0 a1 : D) (S : Store) : m__law_names [a0, a1] S = finF S.length (f__law_names [some a0, some a1, none, none, none, none, none, none, none, none, none] S) := (rfl)
abbrev N__law_hidden : List Str := [(Str.ofString "_law_pen_here"), (Str.ofString "_law_many"), (Str.ofString "_law_k"), (Str.ofString "_law_names_here"), (Str.ofString "_law_found"), (Str.ofString "_law_kind")]
abbrev ps__law_hidden : List Str := [(Str.ofString "_law_pen_here"), (Str.ofString "_law_many")]
def f__law_hidden_L1 : FS := wPar2 3 4 (wCons (wCall0 m__law_names (wCons (wVar 0) (wCons (wC (.p (.int 24))) wNil))) (wCons (wNewL wNil) wNil))
def f__law_hidden_L3 : FS := wSet 5 (wCall0 m__law_pick (wCons (wVar 0) (wCons (wDisp .lst (wCons (wC (.p (.str (Str.ofString "lay")))) (wCons (wC (.p (.str (Str.ofString "lay")))) (wCons (wC (.p (.str (Str.ofString "lay")))) (wCons (wC (.p (.str (Str.ofString "cut")))) (wCons (wC (.p (.str (Str.ofString "cut")))) (wCons (wC (.p (.str (Str.ofString "dike")))) wNil))))))) wNil)))
def f__law_hidden_L4 : FS := wDrop (wBM "list" dAppend (wVar 4) (wCons (wDisp .tup (wCons (wVar 5) (wCons (wBin dIx (wVar 3) (wVar 2)) wNil))) wNil))
def f__law_hidden_L6 : FS := wLPut (wVar 4) (wUn dNeg (wC (.p (.int 1)))) (wDisp .tup (wCons (wC (.p (.str (Str.ofString "cut")))) (wCons (wBin dIx (wVar 3) (wBin dSub (wVar 2) (wC (.p (.int 1))))) wNil)))
def f__law_hidden_L5 : FS := wIfS (wAnd (wTest (wBin (dEqv false) (wVar 5) (wC (.p (.str (Str.ofString "cut")))))) (wAnd (wTest (wBin (dEqv false) (wCall0 m__law_draw (wCons (wVar 0) (wCons (wC (.p (.int 3))) wNil))) (wC (.p (.int 0))))) (wTest (wBin (dInD false) (wDisp .tup (wCons (wC (.p (.str (Str.ofString "lay")))) (wCons (wBin dIx (wVar 3) (wBin dSub (wVar 2) (wC (.p (.int 1))))) wNil))) (wVar 4))))) f__law_hidden_L6 wNext
def f__law_hidden_B2 : FS := wSeq f__law_hidden_L3
  (wSeq f__law_hidden_L4
  f__law_hidden_L5)
def f__law_hidden_L2 : FS := wFor (wRng (wCons (wVar 1) wNil)) (.nm 2) f__law_hidden_B2
def f__law_hidden_L7 : FS := wRet (wFrz (wVar 4))
def f__law_hidden : FS :=
  (wSeq f__law_hidden_L1
  (wSeq f__law_hidden_L2
  f__law_hidden_L7))
def m__law_hidden : FD := fnF N__law_hidden ps__law_hidden f__law_hidden
theorem m__law_hidden_e (a0 a1 : D) (S : Store) : m__law_hidden [a0, a1] S = finF S.length (f__law_hidden [some a0, some a1, none, none, none, none] S) := (rfl)
abbrev N__law_is_name : List Str := [(Str.ofString "_law_word"), (Str.ofString "_law_sign")]
abbrev ps__law_is_name : List Str := [(Str.ofString "_law_word")]
def f__law_is_name_E1 : FE := wVar 1
def f__law_is_name_T1 : FT := wTest (wBin (dInS true) (wVar 1) (wC (.p (.str (Str.ofString "abcdefghijklmnopqrstuvwxyz")))))
def f__law_is_name_L1 : FS := wRet (wAndV (wChain dLt dLt (wC (.p (.int 0))) (wCB (b1 dLen) (wCons (wVar 0) wNil)) (wC (.p (.int 9)))) (wBin (dEqv false) (wLC (wIt (wVar 0)) (.nm 1) f__law_is_name_T1 f__law_is_name_E1 [1]) (wDisp .lst wNil)))
def f__law_is_name : FS :=
  f__law_is_name_L1
def m__law_is_name : FD := fnF N__law_is_name ps__law_is_name f__law_is_name
theorem m__law_is_name_e (a0 : D) (S : Store) : m__law_is_name [a0] S = finF S.length (f__law_is_name [some a0, none] S) := (rfl)
abbrev N__law_text_bent : List Str := [(Str.ofString "_law_pen_here"), (Str.ofString "_law_text"), (Str.ofString "_law_sign"), (Str.ofString "_law_between"), (Str.ofString "_law_pieces"), (Str.ofString "_law_k"), (Str.ofString "_law_some"), (Str.ofString "_law_at"), (Str.ofString "_law_way")]
abbrev ps__law_text_bent : List Str := [(Str.ofString "_law_pen_here"), (Str.ofString "_law_text")]
def f__law_text_bent_L1 : FS := wPar2 7 8 (wCons (wCall0 m__law_draw (wCons (wVar 0) (wCons (wBin dAdd (wCB (b1 dLen) (wCons (wVar 1) wNil)) (wC (.p (.int 1)))) wNil))) (wCons (wCall0 m__law_draw (wCons (wVar 0) (wCons (wC (.p (.int 9))) wNil))) wNil))
def f__law_text_bent_L2 : FS := wSet 2 (wCall0 m__law_pick (wCons (wVar 0) (wCons (wBin dAdd (wCB (b1 dListS) (wCons (wC (.p (.str (Str.ofString " 0123456789-~#:+ab\nA ")))) wNil)) (wDisp .lst (wCons (wC (.p (.str (Str.ofString "lay")))) (wCons (wC (.p (.str (Str.ofString "lift")))) (wCons (wC (.p (.str (Str.ofString " 0")))) (wCons (wC (.p (.str (Str.ofString "-0")))) (wCons (wC (.p (.str (Str.ofString "00")))) (wCons (wC (.p (.str (Str.ofString " a:1")))) (wCons (wC (.p (.str (Str.ofString "~a")))) (wCons (wC (.p (.str (Str.ofString " x")))) (wCons (wC (.p (.str (Str.ofString "#a")))) wNil))))))))))) wNil)))
def f__law_text_bent_L4 : FS := wRet (wBin dAdd (wBin dAdd (wSl (wVar 1) wNoP (wPart (wVar 7))) (wVar 2)) (wSl (wVar 1) (wPart (wBin dAdd (wVar 7) (wVar 8))) wNoP))
def f__law_text_bent_L3 : FS := wIfS (wTest (wBin dLt (wVar 8) (wC (.p (.int 2))))) f__law_text_bent_L4 wNext
def f__law_text_bent_L6 : FS := wRet (wBin dAdd (wSl (wVar 1) wNoP (wPart (wVar 7))) (wSl (wVar 1) (wPart (wBin dAdd (wVar 7) (wC (.p (.int 1))))) wNoP))
def f__law_text_bent_L5 : FS := wIfS (wTest (wBin (dEqv false) (wVar 8) (wC (.p (.int 2))))) f__law_text_bent_L6 wNext
def f__law_text_bent_L8 : FS := wRet (wBin dAdd (wBin dAdd (wSl (wVar 1) wNoP (wPart (wVar 7))) (wSl (wVar 1) (wPart (wVar 7)) (wPart (wBin dAdd (wVar 7) (wC (.p (.int 1))))))) (wSl (wVar 1) (wPart (wVar 7)) wNoP))
def f__law_text_bent_L7 : FS := wIfS (wTest (wBin (dEqv false) (wVar 8) (wC (.p (.int 3))))) f__law_text_bent_L8 wNext
def f__law_text_bent_L9 : FS := wSet 3 (wIf (wTest (wBin dLt (wVar 8) (wC (.p (.int 7))))) (wC (.p (.str (Str.ofString " ")))) (wC (.p (.str (Str.ofString "\n")))))
def f__law_text_bent_L10 : FS := wSet 4 (wBM "str" dSplit (wVar 1) (wCons (wVar 3) wNil))
def f__law_text_bent_L11 : FS := wSet 5 (wCall0 m__law_draw (wCons (wVar 0) (wCons (wCB (b1 dLen) (wCons (wVar 4) wNil)) wNil)))
def f__law_text_bent_L12 : FS := wSet 6 (wDisp .lst (wCons (wBin dAdd (wSl (wVar 4) wNoP (wPart (wVar 5))) (wSl (wVar 4) (wPart (wBin dAdd (wVar 5) (wC (.p (.int 1))))) wNoP)) (wCons (wBin dAdd (wSl (wVar 4) wNoP (wPart (wBin dAdd (wVar 5) (wC (.p (.int 1)))))) (wSl (wVar 4) (wPart (wVar 5)) wNoP)) wNil)))
def f__law_text_bent_L13 : FS := wSet 6 (wBin dAdd (wVar 6) (wDisp .lst (wCons (wBin dAdd (wBin dAdd (wSl (wVar 4) wNoP (wPart (wVar 5))) (wRevL (wSl (wVar 4) (wPart (wVar 5)) (wPart (wBin dAdd (wVar 5) (wC (.p (.int 2)))))))) (wSl (wVar 4) (wPart (wBin dAdd (wVar 5) (wC (.p (.int 2))))) wNoP)) (wCons (wBin dAdd (wBin dAdd (wSl (wVar 4) wNoP (wPart (wVar 5))) (wDisp .lst (wCons (wVar 2) wNil))) (wSl (wVar 4) (wPart (wVar 5)) wNoP)) wNil))))
def f__law_text_bent_L14 : FS := wRet (wJoin (wVar 3) (wCall0 m__law_pick (wCons (wVar 0) (wCons (wVar 6) wNil))))
def f__law_text_bent : FS :=
  (wSeq f__law_text_bent_L1
  (wSeq f__law_text_bent_L2
  (wSeq f__law_text_bent_L3
  (wSeq f__law_text_bent_L5
  (wSeq f__law_text_bent_L7
  (wSeq f__law_text_bent_L9
  (wSeq f__law_text_bent_L10
  (wSeq f__law_text_bent_L11
  (wSeq f__law_text_bent_L12
  (wSeq f__law_text_bent_L13
  f__law_text_bent_L14))))))))))
def m__law_text_bent : FD := fnF N__law_text_bent ps__law_text_bent f__law_text_bent
theorem m__law_text_bent_e (a0 a1 : D) (S : Store) : m__law_text_bent [a0, a1] S = finF S.length (f__law_text_bent [some a0, some a1, none, none, none, none, none, none, none] S) := (rfl)
abbrev N__law_written : List Str := [(Str.ofString "_law_order"), (Str.ofString "_law_kind"), (Str.ofString "_law_name")]
abbrev ps__law_written : List Str := [(Str.ofString "_law_order")]
def f__law_written_E1 : FE := wBin dAdd (wBin dDGet (wDictP [((wC (.p (.str (Str.ofString "lay")))), (wC (.p (.str (Str.ofString "+"))))), ((wC (.p (.str (Str.ofString "cut")))), (wC (.p (.str (Str.ofString "~"))))), ((wC (.p (.str (Str.ofString "dike")))), (wC (.p (.str (Str.ofString "#")))))]) (wVar 1)) (wVar 2)
def f__law_written_L1 : FS := wRet (wJoin (wC (.p (.str (Str.ofString " ")))) (wLC (wIt (wVar 0)) (.tp [1, 2]) wYes f__law_written_E1 [1, 2]))
def f__law_written : FS :=
  f__law_written_L1
def m__law_written : FD := fnF N__law_written ps__law_written f__law_written
theorem m__law_written_e (a0 : D) (S : Store) : m__law_written [a0] S = finF S.length (f__law_written [some a0, none, none] S) := (rfl)
abbrev N__law_order_in : List Str := [(Str.ofString "_law_text"), (Str.ofString "_law_found"), (Str.ofString "_law_k"), (Str.ofString "_law_word"), (Str.ofString "_law_kind")]
abbrev ps__law_order_in : List Str := [(Str.ofString "_law_text")]
def f__law_order_in_L1 : FS := wSet 1 (wNewL wNil)
def f__law_order_in_L3 : FS := wSet 4 (wGet2 (wDictP [((wC (.p (.str (Str.ofString "+")))), (wC (.p (.str (Str.ofString "lay"))))), ((wC (.p (.str (Str.ofString "~")))), (wC (.p (.str (Str.ofString "cut"))))), ((wC (.p (.str (Str.ofString "#")))), (wC (.p (.str (Str.ofString "dike")))))]) (wSl (wVar 3) wNoP (wPart (wC (.p (.int 1))))) (wC (.p .non)))
def f__law_order_in_L5 : FS := wRet (wVar 2)
def f__law_order_in_L4 : FS := wIfS (wOr (wTest (wBin (dIsN false) (wVar 4) (wC (.p .non)))) (wOr (wNot (wTest (wCall0 m__law_is_name (wCons (wSl (wVar 3) (wPart (wC (.p (.int 1)))) wNoP) wNil)))) (wTest (wBin (dInD false) (wDisp .tup (wCons (wVar 4) (wCons (wSl (wVar 3) (wPart (wC (.p (.int 1)))) wNoP) wNil))) (wVar 1))))) f__law_order_in_L5 wNext
def f__law_order_in_L6 : FS := wDrop (wBM "list" dAppend (wVar 1) (wCons (wDisp .tup (wCons (wVar 4) (wCons (wSl (wVar 3) (wPart (wC (.p (.int 1)))) wNoP) wNil))) wNil))
def f__law_order_in_B2 : FS := wSeq f__law_order_in_L3
  (wSeq f__law_order_in_L4
  f__law_order_in_L6)
def f__law_order_in_L2 : FS := wFor (wEnum (wCons (wIf (wTest (wBin (dEqv false) (wVar 0) (wC (.p (.str (Str.ofString "")))))) (wDisp .lst wNil) (wBM "str" dSplit (wVar 0) (wCons (wC (.p (.str (Str.ofString " ")))) wNil))) wNil)) (.tp [2, 3]) f__law_order_in_B2
def f__law_order_in_L7 : FS := wRet (wFrz (wVar 1))
def f__law_order_in : FS :=
  (wSeq f__law_order_in_L1
  (wSeq f__law_order_in_L2
  f__law_order_in_L7))
def m__law_order_in : FD := fnF N__law_order_in ps__law_order_in f__law_order_in
theorem m__law_order_in_e (a0 : D) (S : Store) : m__law_order_in [a0] S = finF S.length (f__law_order_in [some a0, none, none, none, none] S) := (rfl)
abbrev N__law_told : List Str := [(Str.ofString "_law_text"), (Str.ofString "e")]
abbrev ps__law_told : List Str := [(Str.ofString "_law_text")]
def f__law_told_L2 : FS := wRet (wCall0 m_read_order (wCons (wVar 0) wNil))
def f__law_told_L4 : FS := wRet (wDisp .tup (wCons (wAttr cs_line (Str.ofString "line") (wVar 1)) (wCons (wAttr cs_word (Str.ofString "word") (wVar 1)) (wCons (wUn (dIsK kinds is_ValueError) (wVar 1)) wNil))))
def f__law_told_L1 : FS := wTry f__law_told_L2 [(exm_ParseError, 1, f__law_told_L4)]
def f__law_told : FS :=
  f__law_told_L1
def m__law_told : FD := fnF N__law_told ps__law_told f__law_told
theorem m__law_told_e (a0 : D) (S : Store) : m__law_told [a0] S = finF S.length (f__law_told [some a0, none] S) := (rfl)
abbrev N_law : List Str := [(Str.ofString "_law_script"), (Str.ofString "_law_pen_here"), (Str.ofString "_law_turn"), (Str.ofString "_law_order"), (Str.ofString "_law_form"), (Str.ofString "_law_texts"), (Str.ofString "_law_k"), (Str.ofString "_law_text"), (Str.ofString "_law_told_here"), (Str.ofString "_law_bent"), (Str.ofString "_law_due"), (Str.ofString "_law_value")]
abbrev ps_law : List Str := [(Str.ofString "_law_script")]
def f_law_L1 : FS := wSet 1 (wCall0 m__law_pen (wCons (wVar 0) wNil))
def f_law_L3 : FS := wSet 3 (wCall0 m__law_hidden (wCons (wVar 1) (wCons (wCall0 m__law_draw (wCons (wVar 1) (wCons (wC (.p (.int 13))) wNil))) wNil)))
def f_law_L4 : FS := wSet 4 (wCall0 m__law_written (wCons (wVar 3) wNil))
def f_law_L6 : FS := wRet (wC (.p (.bl false)))
def f_law_L5 : FS := wIfS (wOr (wTest (wBin (dEqv true) (wCB (b1 dRepr) (wCons (wCall0 m_order_text (wCons (wVar 3) wNil)) wNil)) (wCB (b1 dRepr) (wCons (wVar 4) wNil)))) (wTest (wBin (dEqv true) (wCall0 m_order_text (wCons (wCB (b1 dTupleOf) (wCons (wVar 3) wNil)) wNil)) (wVar 4)))) f_law_L6 wNext
def f_law_L8 : FS := wRet (wC (.p (.bl false)))
def f_law_L7 : FS := wIfS (wOr (wTest (wBin (dEqv true) (wCB (b1 dRepr) (wCons (wCall0 m_read_order (wCons (wVar 4) wNil)) wNil)) (wCB (b1 dRepr) (wCons (wVar 3) wNil)))) (wTest (wBin (dEqv true) (wCall0 m_read_order (wCons (wVar 4) wNil)) (wVar 3)))) f_law_L8 wNext
def f_law_L9 : FS := wSet 5 (wDisp .lst (wCons (wBin dAdd (wVar 4) (wC (.p (.str (Str.ofString " "))))) (wCons (wBin dAdd (wC (.p (.str (Str.ofString " ")))) (wVar 4)) (wCons (wBin dAdd (wVar 4) (wC (.p (.str (Str.ofString "\n"))))) (wCons (wBin dAdd (wVar 4) (wC (.p (.str (Str.ofString "\n+a"))))) (wCons (wBin dAdd (wBin dAdd (wVar 4) (wC (.p (.str (Str.ofString " "))))) (wVar 4)) (wCons (wBin dAdd (wVar 4) (wC (.p (.str (Str.ofString " +"))))) (wCons (wBin dAdd (wVar 4) (wC (.p (.str (Str.ofString " zz"))))) wNil))))))))
def f_law_L11 : FS := wSet 9 (wCall0 m__law_text_bent (wCons (wVar 1) (wCons (wVar 4) wNil)))
def f_law_L12 : FS := wSet 5 (wBin dAdd (wVar 5) (wDisp .lst (wCons (wVar 9) (wCons (wCall0 m__law_text_bent (wCons (wVar 1) (wCons (wVar 9) wNil))) wNil))))
def f_law_B10 : FS := wSeq f_law_L11
  f_law_L12
def f_law_L10 : FS := wFor (wRng (wCons (wC (.p (.int 6))) wNil)) (.nm 6) f_law_B10
def f_law_L14 : FS := wSet 10 (wCall0 m__law_order_in (wCons (wVar 7) wNil))
def f_law_L16 : FS := wRet (wC (.p (.bl false)))
def f_law_L15 : FS := wIfS (wTest (wBin (dEqv true) (wCB (b1 dRepr) (wCons (wCall0 m__law_told (wCons (wVar 7) wNil)) wNil)) (wCB (b1 dRepr) (wCons (wIf (wTest (wCB (b2 dIsi) (wCons (wVar 10) (wCons (wC (.p (.ty "int"))) wNil)))) (wDisp .tup (wCons (wC (.p (.int 0))) (wCons (wVar 10) (wCons (wC (.p (.bl true))) wNil)))) (wVar 10)) wNil)))) f_law_L16 wNext
def f_law_B13 : FS := wSeq f_law_L14
  f_law_L15
def f_law_L13 : FS := wFor (wIt (wVar 5)) (.nm 7) f_law_B13
def f_law_L17 : FS := wSet 8 (wCall0 m_read_order (wCons (wVar 4) wNil))
def f_law_L18 : FS := wDrop (wBM "list" dAppend (wVar 8) (wCons (wC (.p .non)) wNil))
def f_law_L20 : FS := wRet (wC (.p (.bl false)))
def f_law_L19 : FS := wIfS (wTest (wBin (dEqv true) (wCall0 m_read_order (wCons (wVar 4) wNil)) (wVar 3))) f_law_L20 wNext
def f_law_B2 : FS := wSeq f_law_L3
  (wSeq f_law_L4
  (wSeq f_law_L5
  (wSeq f_law_L7
  (wSeq f_law_L9
  (wSeq f_law_L10
  (wSeq f_law_L13
  (wSeq f_law_L17
  (wSeq f_law_L18
  f_law_L19))))))))
def f_law_L2 : FS := wFor (wRng (wCons (wBin dAdd (wC (.p (.int 8))) (wCB (b2 dMin2) (wCons (wC (.p (.int 8))) (wCons (wCB (b1 dLen) (wCons (wVar 0) wNil)) wNil)))) wNil)) (.nm 2) f_law_B2
def f_law_E21 : FE := wVar 11
def f_law_T21 : FT := wTest (wBin (dEqv true) (wCall0 m__law_told (wCons (wVar 11) wNil)) (wDisp .tup (wCons (wC (.p (.int 0))) (wCons (wC (.p (.int 0))) (wCons (wC (.p (.bl true))) wNil)))))
def f_law_L21 : FS := wRet (wBin (dEqv false) (wLC (wIt (wDisp .lst (wCons (wC (.p .non)) (wCons (wC (.p (.int 0))) (wCons (wC (.p (.bl true))) (wCons (wDisp .lst (wCons (wC (.p (.str (Str.ofString "+a")))) wNil)) (wCons (wDisp .tup (wCons (wC (.p (.str (Str.ofString "+a")))) wNil)) (wCons wDNew (wCons (wDisp .lst wNil) wNil))))))))) (.nm 11) f_law_T21 f_law_E21 [11]) (wDisp .lst wNil))
def f_law : FS :=
  (wSeq f_law_L1
  (wSeq f_law_L2
  f_law_L21))
def m_law : FD := fnF N_law ps_law f_law
theorem m_law_e (a0 : D) (S : Store) : m_law [a0] S = finF S.length (f_law [some a0, none, none, none, none, none, none, none, none, none, none, none] S) := (rfl)
/-! ### names, levels -/
abbrev abc : Str := Str.ofString "abcdefghijklmnopqrstuvwxyz"
def isName : P → Bool
  | .str z => decide (1 ≤ z.length) && decide (z.length ≤ 8) && z.cps.toList.all fun c => decide (c ∈ abc.cps.toList)
  | _ => false
def isInt : P → Bool
  | .int _ => true
  | _ => false
mutual
/-- a value of the kinds that a law draws -/
def tame : P → Prop
  | .ty _ => False
  | .scr _ => False
  | .obj _ _ _ => False
  | .dT _ _ => False
  | .str z => z.length ≤ 1000 ∧ ∀ c ∈ z.cps.toList, c < 128
  | .tup xs => xs.length ≤ 1000 ∧ tames xs
  | .lst xs => xs.length ≤ 1000 ∧ tames xs
  | _ => True
def tames : List P → Prop
  | [] => True
  | x :: xs => tame x ∧ tames xs
end
theorem tames.mem : ∀ {xs : List P} {x : P}, tames xs → x ∈ xs → tame x
  | [], _, _, m => nomatch m
  | y :: ys, x, h, m => by
    simp only [tames] at h
    rcases List.mem_cons.mp m with rfl | m
    · exact h.1
    · exact h.2.mem m
theorem tames_of : ∀ {xs : List P}, (∀ x ∈ xs, tame x) → tames xs
  | [], _ => by simp only [tames]
  | x :: xs, h => by simpa only [tames] using ⟨h x (List.mem_cons_self ..), tames_of fun y m => h y (List.mem_cons_of_mem _ m)⟩
theorem is_name_eq {v : P} (h : tame v) (S : Store) : m_is_name [.p v] S = .ok (.p (.bl (isName v))) S := by
  rw [m_is_name_e]
  unfold f_is_name
  cases v with
  | str z =>
    simp only [tame] at h
    have hz : z.length ≤ 16777216 := by omega
    have e1 : decide (1 ≤ z.length) = decide ((1 : Int) ≤ (z.length : Int)) := decide_eq_decide.mpr (by omega)
    have e2 : decide (z.length ≤ 8) = decide ((z.length : Int) ≤ 8) := decide_eq_decide.mpr (by omega)
    simp only [evs, List.drop_zero, List.drop_succ_cons, Option.map_some, Option.map_none, List.getElem?_cons_zero, List.getElem?_cons_succ, List.set_cons_zero, List.set_cons_succ, List.map_cons, List.map_nil, List.length_cons, List.length_nil, List.take_succ_cons, List.take_zero, if_true, if_false, eq_self, List.contains_cons, List.contains_nil, List.reverse_cons, List.reverse_nil, List.nil_append, List.cons_append, List.append_nil, List.lookup_cons, reduceCtorEq, ↓reduceIte, Nat.reduceAdd, Nat.reduceSub, Nat.reduceBEq, String.reduceBEq, String.reduceEq, Nat.reduceLeDiff, Nat.reduceLT, Int.reduceLT, Int.reduceLE, Int.reduceEq, Int.reduceToNat, Int.reducePow, Int.reduceAdd, Int.reduceSub, Int.reduceMul, Int.reduceNeg, Nat.reducePow, Int.reduceMod, Int.reduceDiv, Nat.reduceEqDiff, hz, isName, e1, e2]
    cases a1 : decide ((1 : Int) ≤ (z.length : Int)) with
    | false => simp only [evs, List.drop_zero, List.drop_succ_cons, Option.map_some, Option.map_none, List.getElem?_cons_zero, List.getElem?_cons_succ, List.set_cons_zero, List.set_cons_succ, List.map_cons, List.map_nil, List.length_cons, List.length_nil, List.take_succ_cons, List.take_zero, if_true, if_false, eq_self, List.contains_cons, List.contains_nil, List.reverse_cons, List.reverse_nil, List.nil_append, List.cons_append, List.append_nil, List.lookup_cons, reduceCtorEq, ↓reduceIte, Nat.reduceAdd, Nat.reduceSub, Nat.reduceBEq, String.reduceBEq, String.reduceEq, Nat.reduceLeDiff, Nat.reduceLT, Int.reduceLT, Int.reduceLE, Int.reduceEq, Int.reduceToNat, Int.reducePow, Int.reduceAdd, Int.reduceSub, Int.reduceMul, Int.reduceNeg, Nat.reducePow, Int.reduceMod, Int.reduceDiv, Nat.reduceEqDiff]
    | true =>
      cases a2 : decide ((z.length : Int) ≤ 8) with
      | false => simp only [evs, List.drop_zero, List.drop_succ_cons, Option.map_some, Option.map_none, List.getElem?_cons_zero, List.getElem?_cons_succ, List.set_cons_zero, List.set_cons_succ, List.map_cons, List.map_nil, List.length_cons, List.length_nil, List.take_succ_cons, List.take_zero, if_true, if_false, eq_self, List.contains_cons, List.contains_nil, List.reverse_cons, List.reverse_nil, List.nil_append, List.cons_append, List.append_nil, List.lookup_cons, reduceCtorEq, ↓reduceIte, Nat.reduceAdd, Nat.reduceSub, Nat.reduceBEq, String.reduceBEq, String.reduceEq, Nat.reduceLeDiff, Nat.reduceLT, Int.reduceLT, Int.reduceLE, Int.reduceEq, Int.reduceToNat, Int.reducePow, Int.reduceAdd, Int.reduceSub, Int.reduceMul, Int.reduceNeg, Nat.reducePow, Int.reduceMod, Int.reduceDiv, Nat.reduceEqDiff, a2]
      | true =>
        simp only [evs, List.drop_zero, List.drop_succ_cons, Option.map_some, Option.map_none, List.getElem?_cons_zero, List.getElem?_cons_succ, List.set_cons_zero, List.set_cons_succ, List.map_cons, List.map_nil, List.length_cons, List.length_nil, List.take_succ_cons, List.take_zero, if_true, if_false, eq_self, List.contains_cons, List.contains_nil, List.reverse_cons, List.reverse_nil, List.nil_append, List.cons_append, List.append_nil, List.lookup_cons, reduceCtorEq, ↓reduceIte, Nat.reduceAdd, Nat.reduceSub, Nat.reduceBEq, String.reduceBEq, String.reduceEq, Nat.reduceLeDiff, Nat.reduceLT, Int.reduceLT, Int.reduceLE, Int.reduceEq, Int.reduceToNat, Int.reducePow, Int.reduceAdd, Int.reduceSub, Int.reduceMul, Int.reduceNeg, Nat.reducePow, Int.reduceMod, Int.reduceDiv, Nat.reduceEqDiff, a2]
        rw [lcF_mapM (fun c => P.bl (decide (c ∈ abc.cps.toList))) (fun c m => ⟨_, rfl, by unfold f_is_name_1; simp only [evs, List.drop_zero, List.drop_succ_cons, Option.map_some, Option.map_none, List.getElem?_cons_zero, List.getElem?_cons_succ, List.set_cons_zero, List.set_cons_succ, List.map_cons, List.map_nil, List.length_cons, List.length_nil, List.take_succ_cons, List.take_zero, if_true, if_false, eq_self, List.contains_cons, List.contains_nil, List.reverse_cons, List.reverse_nil, List.nil_append, List.cons_append, List.append_nil, List.lookup_cons, reduceCtorEq, ↓reduceIte, Nat.reduceAdd, Nat.reduceSub, Nat.reduceBEq, String.reduceBEq, String.reduceEq, Nat.reduceLeDiff, Nat.reduceLT, Int.reduceLT, Int.reduceLE, Int.reduceEq, Int.reduceToNat, Int.reducePow, Int.reduceAdd, Int.reduceSub, Int.reduceMul, Int.reduceNeg, Nat.reducePow, Int.reduceMod, Int.reduceDiv, Nat.reduceEqDiff]⟩) (by simp [sz]; exact Nat.le_trans h.1 (by decide))]
        simp only [evs, List.drop_zero, List.drop_succ_cons, Option.map_some, Option.map_none, List.getElem?_cons_zero, List.getElem?_cons_succ, List.set_cons_zero, List.set_cons_succ, List.map_cons, List.map_nil, List.length_cons, List.length_nil, List.take_succ_cons, List.take_zero, if_true, if_false, eq_self, List.contains_cons, List.contains_nil, List.reverse_cons, List.reverse_nil, List.nil_append, List.cons_append, List.append_nil, List.lookup_cons, reduceCtorEq, ↓reduceIte, Nat.reduceAdd, Nat.reduceSub, Nat.reduceBEq, String.reduceBEq, String.reduceEq, Nat.reduceLeDiff, Nat.reduceLT, Int.reduceLT, Int.reduceLE, Int.reduceEq, Int.reduceToNat, Int.reducePow, Int.reduceAdd, Int.reduceSub, Int.reduceMul, Int.reduceNeg, Nat.reducePow, Int.reduceMod, Int.reduceDiv, Nat.reduceEqDiff, bls_map]
        rw [List.all_map]
        rfl
  | ty _ => simp only [tame] at h
  | scr _ => simp only [tame] at h
  | obj _ _ _ => simp only [tame] at h
  | dT _ _ => simp only [tame] at h
  | _ => simp only [evs, List.drop_zero, List.drop_succ_cons, Option.map_some, Option.map_none, List.getElem?_cons_zero, List.getElem?_cons_succ, List.set_cons_zero, List.set_cons_succ, List.map_cons, List.map_nil, List.length_cons, List.length_nil, List.take_succ_cons, List.take_zero, if_true, if_false, eq_self, List.contains_cons, List.contains_nil, List.reverse_cons, List.reverse_nil, List.nil_append, List.cons_append, List.append_nil, List.lookup_cons, reduceCtorEq, ↓reduceIte, Nat.reduceAdd, Nat.reduceSub, Nat.reduceBEq, String.reduceBEq, String.reduceEq, Nat.reduceLeDiff, Nat.reduceLT, Int.reduceLT, Int.reduceLE, Int.reduceEq, Int.reduceToNat, Int.reducePow, Int.reduceAdd, Int.reduceSub, Int.reduceMul, Int.reduceNeg, Nat.reducePow, Int.reduceMod, Int.reduceDiv, Nat.reduceEqDiff, isName]
theorem name_chars {x : Str} (h : isName (.str x) = true) : x.length ≤ 8 ∧ 1 ≤ x.length ∧ ∀ c ∈ x.cps.toList, c < 128 := by
  simp only [isName, Bool.and_eq_true, decide_eq_true_eq, List.all_eq_true] at h
  exact ⟨h.1.2, h.1.1, fun c m => (by decide +kernel : ∀ c ∈ abc.cps.toList, c < 128) c (h.2 c m)⟩
theorem name_fine {x : Str} (n : Nat) (h : isName (.str x) = true) : fine n (.str x) = true := by
  have e : fine n (.str x) = PyData.strOk x := by cases n <;> rfl
  rw [e]
  exact strOk_of fun c m => Nat.lt_trans ((name_chars h).2.2 c m) (by decide)
/-! ### the law's pen of numbers -/
structure Feed where
  cs : List Int
  at_ : Int
  left : Int
abbrev fk : List Key := [.inr (Str.ofString "cells"), .inr (Str.ofString "used"), .inr (Str.ofString "left")]
def feedC (f : Feed) : Cell := .dK fk [.lst (f.cs.map P.int), .int f.at_, .int f.left]
structure FOk (f : Feed) : Prop where
  cs : f.cs.length ≤ 63
  at0 : 0 ≤ f.at_
  le0 : 0 ≤ f.left
/-- a pen from which so many numbers may still be drawn -/
def Fd (n : Nat) (c : Cell) : Prop := ∃ f, c = feedC f ∧ FOk f ∧ f.at_ + n ≤ 1099511627776
theorem Fd.le {n m : Nat} {c : Cell} (h : Fd n c) (e : m ≤ n) : Fd m c := let ⟨f, h1, h2, h3⟩ := h; ⟨f, h1, h2, by omega⟩
theorem mulOk_of {i j : Int} (a b : Nat) (hi : i.natAbs < 2 ^ a) (hj : j.natAbs < 2 ^ b) (ha : 0 < a) (hb : 0 < b) (h : a + b ≤ 1000000) : mulOk i j = true := by
  have l : ∀ (n k : Nat), n < 2 ^ k → 0 < k → n.log2 < k := fun n k h0 hk => by
    by_cases e : n = 0
    · subst e; simpa using hk
    · exact (Nat.log2_lt e).mpr h0
  unfold mulOk
  simp only [decide_eq_true_eq]
  have := l _ _ hi ha
  have := l _ _ hj hb
  omega
theorem get_left {f : Feed} {R : Store} : dDGet (.cell 0) (.p (.str (Str.ofString "left"))) (feedC f :: R) = .ok (.p (.int f.left)) (feedC f :: R) := by
  simp only [dDGet, keyOf, feedC, List.getElem?_cons_zero, fk, klook, Sum.inr.injEq, of_inj, String.reduceEq, if_false, if_true]
theorem get_at {f : Feed} {R : Store} : dDGet (.cell 0) (.p (.str (Str.ofString "used"))) (feedC f :: R) = .ok (.p (.int f.at_)) (feedC f :: R) := by
  simp only [dDGet, keyOf, feedC, List.getElem?_cons_zero, fk, klook, Sum.inr.injEq, of_inj, String.reduceEq, if_false, if_true]
theorem get_cells {f : Feed} {R : Store} : dDGet (.cell 0) (.p (.str (Str.ofString "cells"))) (feedC f :: R) = .ok (.p (.lst (f.cs.map P.int))) (feedC f :: R) := by
  simp only [dDGet, keyOf, feedC, List.getElem?_cons_zero, fk, klook, Sum.inr.injEq, of_inj, String.reduceEq, if_false, if_true]
theorem put_left {f : Feed} {R : Store} {v : Int} : dDPut (.cell 0) (.p (.str (Str.ofString "left"))) (.p (.int v)) (feedC f :: R) = .ok () (feedC { f with left := v } :: R) := by
  simp [dDPut, keyOf, feedC, fk, kset, of_inj, sz]
theorem put_at {f : Feed} {R : Store} {v : Int} : dDPut (.cell 0) (.p (.str (Str.ofString "used"))) (.p (.int v)) (feedC f :: R) = .ok () (feedC { f with at_ := v } :: R) := by
  simp [dDPut, keyOf, feedC, fk, kset, of_inj, sz]
theorem pds_ints : ∀ ns : List Int, fines 63 (ns.map P.int) = true
  | [] => rfl
  | n :: ns => by
    show (fine 63 (P.int n) && fines 63 (ns.map P.int)) = true
    rw [pds_ints ns]
    rfl
theorem ne_nil {xs : List P} {S : Store} (h : fines 63 xs = true) : dEqv true (.p (.lst xs)) (.p (.lst [])) S = .ok (.p (.bl (!xs.isEmpty))) S := by
  rw [eq_P (by simpa [fine] using h) (by simp [fine, fines])]
  cases xs <;> simp [peq, peqs]
theorem eq_nil {xs : List P} {S : Store} (h : fines 63 xs = true) : dEqv false (.p (.lst xs)) (.p (.lst [])) S = .ok (.p (.bl xs.isEmpty)) S := by
  rw [eq_P (by simpa [fine] using h) (by simp [fine, fines])]
  cases xs <;> simp [peq, peqs]
theorem pen_ok {ns : List Int} (hl : ns.length ≤ 63) : ∃ c, m__law_pen [.p (.scr (ns.map P.int))] [] = .ok (.cell 0) [c] ∧ Fd 1099511627776 c := by
  refine ⟨feedC ⟨ns, 0, 0⟩, ?_, ⟨ns, 0, 0⟩, rfl, ⟨hl, Int.le_refl _, Int.le_refl _⟩, by show (0 : Int) + _ ≤ _; omega⟩
  rw [m__law_pen_e]
  unfold f__law_pen f__law_pen_L1
  have key : cutP (ns.map P.int) none (some 63) = ns.map P.int := by
    unfold cutP
    rw [HT.sIx_none, List.drop_zero, Nat.sub_zero]
    apply List.take_of_length_le
    show (ns.map P.int).length ≤ HT.sIx _ _ (some ((63 : Nat) : Int))
    rw [HT.sIx_nat, List.length_map]
    omega
  simp only [evs, List.drop_zero, List.drop_succ_cons, Option.map_some, Option.map_none, List.getElem?_cons_zero, List.getElem?_cons_succ, List.set_cons_zero, List.set_cons_succ, List.map_cons, List.map_nil, List.length_cons, List.length_nil, List.take_succ_cons, List.take_zero, if_true, if_false, eq_self, List.contains_cons, List.contains_nil, List.reverse_cons, List.reverse_nil, List.nil_append, List.cons_append, List.append_nil, List.lookup_cons, reduceCtorEq, ↓reduceIte, Nat.reduceAdd, Nat.reduceSub, Nat.reduceBEq, String.reduceBEq, String.reduceEq, Nat.reduceLeDiff, Nat.reduceLT, Int.reduceLT, Int.reduceLE, Int.reduceEq, Int.reduceToNat, Int.reducePow, Int.reduceAdd, Int.reduceSub, Int.reduceMul, Int.reduceNeg, Nat.reducePow, Int.reduceMod, Int.reduceDiv, Nat.reduceEqDiff, key, nodupB, List.any_cons, List.any_nil, Sum.inr.injEq]
  rfl
/-- a call that draws at most n numbers; what it returns has the property A -/
def Drw (n : Nat) (m : FD) (as : List D) (A : P → Prop) : Prop := ∀ k c R, Fd (k + n) c → ∃ v c', m (.cell 0 :: as) (c :: R) = .ok (.p v) (c' :: R) ∧ Fd k c' ∧ A v
def below (m : Int) (v : P) : Prop := ∃ i : Int, v = .int i ∧ 0 ≤ i ∧ i < m
theorem below.mk {m i : Int} (h : 0 < m) : below m (.int (i % m)) := ⟨_, rfl, Int.emod_nonneg _ (by omega), Int.emod_lt_of_pos _ h⟩
theorem whileF_inv {t : FT} {f : FS} {S : Store} (I : Nat → Rho → Prop) (hstep : ∀ n r, I n r → (t r S = .ok false S) ∨ (∃ k r', t r S = .ok true S ∧ f r S = .nx r' S ∧ I k r' ∧ k < n)) :
    ∀ {m n : Nat} {r : Rho}, I n r → n < m → ∃ r' k, whileF t f m r S = .nx r' S ∧ I k r' ∧ t r' S = .ok false S
  | 0, n, r, _, h => absurd h (Nat.not_lt_zero _)
  | m + 1, n, r, hi, h => by
    rcases hstep n r hi with h1 | ⟨k, r', h1, h2, h3, h4⟩
    · refine ⟨r, n, ?_, hi, h1⟩
      unfold whileF
      rw [h1, st_ok, if_neg (by simp)]
    · obtain ⟨r2, k2, e1, e2, e3⟩ := whileF_inv I hstep (m := m) h3 (by omega)
      refine ⟨r2, k2, ?_, e2, e3⟩
      unfold whileF
      rw [h1, st_ok, if_pos rfl, h2]
      exact e1
/-- a bound of what is reckoned, so many turns ahead of the end -/
def bnd (n : Nat) : Int := 2 ^ (255 - 28 * n)
theorem bnd_succ {n : Nat} (h : n < 9) : bnd n = bnd (n + 1) * 268435456 := by
  unfold bnd
  have : 255 - 28 * n = (255 - 28 * (n + 1)) + 28 := by omega
  rw [this, Int.pow_add]
  rfl
theorem bnd_pos (n : Nat) : 1 ≤ bnd n := by
  have : (0 : Int) < bnd n := by
    unfold bnd
    exact Int.pow_pos (by decide)
  omega
theorem bnd_le (n : Nat) : bnd n ≤ 2 ^ 255 := by
  unfold bnd
  have h : (2 : Nat) ^ (255 - 28 * n) ≤ 2 ^ 255 := Nat.pow_le_pow_right (by decide) (by omega)
  exact_mod_cast h
theorem draw_while {S : Store} {many used : Int} {x3 x5 : Option D} {blend : Int} (hu0 : 0 ≤ used) (hu : used ≤ 1099511627776) (b0 : 0 ≤ blend) (b1' : blend < 4294967296) (h0 : 0 < many) (h1 : many < 2 ^ 208) :
    ∃ r' tot, f__law_draw_L16 [some (.cell 0), some (.p (.int many)), some (.p (.int used)), x3, some (.p (.int blend)), x5, some (.p (.int 0)), some (.p (.int many))] S = .nx r' S ∧ r'[1]? = some (some (.p (.int many))) ∧ r'[6]? = some (some (.p (.int tot))) := by
  unfold f__law_draw_L16 wWhile
  obtain ⟨r', k, e1, ⟨bl, tot, sz', rfl, _⟩, _⟩ := whileF_inv (t := f__law_draw_T16) (f := f__law_draw_B16) (S := S) (fun n r => ∃ bl tot sz' : Int, r = [some (.cell 0), some (.p (.int many)), some (.p (.int used)), x3, some (.p (.int bl)), x5, some (.p (.int tot)), some (.p (.int sz'))] ∧ 0 ≤ bl ∧ bl < 4294967296 ∧ 0 ≤ tot ∧ tot < bnd n ∧ 0 ≤ sz' ∧ sz' < 67108864 ^ n ∧ n ≤ 8)
    (fun n r ⟨bl, tot, sz', e, b0, b1', t0, t1, s0, s1, hn⟩ => by
      subst e
      by_cases c : 0 < sz'
      · refine .inr ?_
        cases n with
        | zero => exact absurd s1 (by simp; omega)
        | succ n =>
          have bs := bnd_succ (n := n) (by omega)
          have bp := bnd_pos (n + 1)
          have bl1 := bnd_le (n + 1)
          have m1 : mulOk bl bl = true := mulOk_of 64 64 (by omega) (by omega) (by decide) (by decide) (by decide)
          have m2 : mulOk 16769023 bl = true := mulOk_of 64 64 (by decide) (by omega) (by decide) (by decide) (by decide)
          have m3 : mulOk 13 used = true := mulOk_of 64 64 (by decide) (by omega) (by decide) (by decide) (by decide)
          have m4 : mulOk tot 67108864 = true := mulOk_of 256 64 (by omega) (by decide) (by decide) (by decide) (by decide)
          have y0 := Int.emod_nonneg (bl * bl + 16769023 * bl + 13 * used + 5) (show (4294967189 : Int) ≠ 0 by decide)
          have y1 := Int.emod_lt_of_pos (bl * bl + 16769023 * bl + 13 * used + 5) (show (0 : Int) < 4294967189 by decide)
          have l1 : Nat.log2 64 < 9000 := by decide
          have l2 : Nat.log2 (Int.natAbs 67108864) < 9000 := by decide
          unfold f__law_draw_T16 f__law_draw_B16 f__law_draw_L17 f__law_draw_L18 f__law_draw_L19
          simp only [evs, List.drop_zero, List.drop_succ_cons, Option.map_some, Option.map_none, List.getElem?_cons_zero, List.getElem?_cons_succ, List.set_cons_zero, List.set_cons_succ, List.map_cons, List.map_nil, List.length_cons, List.length_nil, List.take_succ_cons, List.take_zero, if_true, if_false, eq_self, List.contains_cons, List.contains_nil, List.reverse_cons, List.reverse_nil, List.nil_append, List.cons_append, List.append_nil, List.lookup_cons, reduceCtorEq, ↓reduceIte, Nat.reduceAdd, Nat.reduceSub, Nat.reduceBEq, String.reduceBEq, String.reduceEq, Nat.reduceLeDiff, Nat.reduceLT, Int.reduceLT, Int.reduceLE, Int.reduceEq, Int.reduceToNat, Int.reducePow, Int.reduceAdd, Int.reduceSub, Int.reduceMul, Int.reduceNeg, Nat.reducePow, Int.reduceMod, Int.reduceDiv, Nat.reduceEqDiff, c, m1, m2, m3, m4]
          generalize (bl * bl + 16769023 * bl + 13 * used + 5) % 4294967189 = y at y0 y1
          have m5 : mulOk y (y + 28629151) = true := mulOk_of 64 64 (by omega) (by omega) (by decide) (by decide) (by decide)
          simp only [evs, List.drop_zero, List.drop_succ_cons, Option.map_some, Option.map_none, List.getElem?_cons_zero, List.getElem?_cons_succ, List.set_cons_zero, List.set_cons_succ, List.map_cons, List.map_nil, List.length_cons, List.length_nil, List.take_succ_cons, List.take_zero, if_true, if_false, eq_self, List.contains_cons, List.contains_nil, List.reverse_cons, List.reverse_nil, List.nil_append, List.cons_append, List.append_nil, List.lookup_cons, reduceCtorEq, ↓reduceIte, Nat.reduceAdd, Nat.reduceSub, Nat.reduceBEq, String.reduceBEq, String.reduceEq, Nat.reduceLeDiff, Nat.reduceLT, Int.reduceLT, Int.reduceLE, Int.reduceEq, Int.reduceToNat, Int.reducePow, Int.reduceAdd, Int.reduceSub, Int.reduceMul, Int.reduceNeg, Nat.reducePow, Int.reduceMod, Int.reduceDiv, Nat.reduceEqDiff, m4, m5, l1, l2]
          have z0 := Int.emod_nonneg (y * (y + 28629151)) (show (4294967279 : Int) ≠ 0 by decide)
          have z1 := Int.emod_lt_of_pos (y * (y + 28629151)) (show (0 : Int) < 4294967279 by decide)
          generalize (y * (y + 28629151)) % 4294967279 = z at z0 z1
          refine ⟨n, _, rfl, ⟨y, _, _, rfl, y0, by omega, by omega, by omega, Int.ediv_nonneg s0 (by decide), ?_, by omega⟩, by omega⟩
          refine Int.ediv_lt_of_lt_mul (by decide) ?_
          rwa [Int.pow_succ] at s1
      · refine .inl ?_
        unfold f__law_draw_T16
        simp only [evs, List.drop_zero, List.drop_succ_cons, Option.map_some, Option.map_none, List.getElem?_cons_zero, List.getElem?_cons_succ, List.set_cons_zero, List.set_cons_succ, List.map_cons, List.map_nil, List.length_cons, List.length_nil, List.take_succ_cons, List.take_zero, if_true, if_false, eq_self, List.contains_cons, List.contains_nil, List.reverse_cons, List.reverse_nil, List.nil_append, List.cons_append, List.append_nil, List.lookup_cons, reduceCtorEq, ↓reduceIte, Nat.reduceAdd, Nat.reduceSub, Nat.reduceBEq, String.reduceBEq, String.reduceEq, Nat.reduceLeDiff, Nat.reduceLT, Int.reduceLT, Int.reduceLE, Int.reduceEq, Int.reduceToNat, Int.reducePow, Int.reduceAdd, Int.reduceSub, Int.reduceMul, Int.reduceNeg, Nat.reducePow, Int.reduceMod, Int.reduceDiv, Nat.reduceEqDiff, c])
    (m := 2 ^ 40) (n := 8) (r := [some (.cell 0), some (.p (.int many)), some (.p (.int used)), x3, some (.p (.int blend)), x5, some (.p (.int 0)), some (.p (.int many))])
    ⟨blend, 0, many, rfl, b0, b1', Int.le_refl _, by have := bnd_pos 8; omega, by omega, by simpa using h1, Nat.le_refl _⟩ (by decide)
  exact ⟨_, tot, e1, rfl, rfl⟩
theorem draw_ok {many : Int} (h0 : 0 < many) (h1 : many < 2 ^ 208) : Drw 1 m__law_draw [.p (.int many)] (below many) := by
  rintro k c R ⟨f, rfl, ok, hat⟩
  have hat : f.at_ + 1 ≤ 1099511627776 := by omega
  have a0 := ok.at0
  have hlog : many.natAbs.log2 < 9000 := by
    have : many.natAbs < 2 ^ 208 := by omega
    have h2 : many.natAbs ≠ 0 := by omega
    have := (Nat.log2_lt h2).mpr this
    omega
  rw [m__law_draw_e]
  unfold f__law_draw
  have hL1 : f__law_draw_L1 [some (.cell 0), some (.p (.int many)), none, none, none, none, none, none] (feedC f :: R) = if 0 < f.left then .rt (.p (.int (f.left % many))) (feedC { f with left := f.left / many } :: R) else .nx [some (.cell 0), some (.p (.int many)), none, none, none, none, none, none] (feedC f :: R) := by
    unfold f__law_draw_L1 f__law_draw_L2 f__law_draw_L3 f__law_draw_L4
    by_cases c1 : 0 < f.left
    · rw [if_pos c1]
      simp only [evs, List.drop_zero, List.drop_succ_cons, Option.map_some, Option.map_none, List.getElem?_cons_zero, List.getElem?_cons_succ, List.set_cons_zero, List.set_cons_succ, List.map_cons, List.map_nil, List.length_cons, List.length_nil, List.take_succ_cons, List.take_zero, if_true, if_false, eq_self, List.contains_cons, List.contains_nil, List.reverse_cons, List.reverse_nil, List.nil_append, List.cons_append, List.append_nil, List.lookup_cons, reduceCtorEq, ↓reduceIte, Nat.reduceAdd, Nat.reduceSub, Nat.reduceBEq, String.reduceBEq, String.reduceEq, Nat.reduceLeDiff, Nat.reduceLT, Int.reduceLT, Int.reduceLE, Int.reduceEq, Int.reduceToNat, Int.reducePow, Int.reduceAdd, Int.reduceSub, Int.reduceMul, Int.reduceNeg, Nat.reducePow, Int.reduceMod, Int.reduceDiv, Nat.reduceEqDiff, get_left, c1, h0, hlog, put_left]
    · rw [if_neg c1]
      simp only [evs, List.drop_zero, List.drop_succ_cons, Option.map_some, Option.map_none, List.getElem?_cons_zero, List.getElem?_cons_succ, List.set_cons_zero, List.set_cons_succ, List.map_cons, List.map_nil, List.length_cons, List.length_nil, List.take_succ_cons, List.take_zero, if_true, if_false, eq_self, List.contains_cons, List.contains_nil, List.reverse_cons, List.reverse_nil, List.nil_append, List.cons_append, List.append_nil, List.lookup_cons, reduceCtorEq, ↓reduceIte, Nat.reduceAdd, Nat.reduceSub, Nat.reduceBEq, String.reduceBEq, String.reduceEq, Nat.reduceLeDiff, Nat.reduceLT, Int.reduceLT, Int.reduceLE, Int.reduceEq, Int.reduceToNat, Int.reducePow, Int.reduceAdd, Int.reduceSub, Int.reduceMul, Int.reduceNeg, Nat.reducePow, Int.reduceMod, Int.reduceDiv, Nat.reduceEqDiff, get_left, c1]
  rw [wSeq, hL1]
  by_cases c1 : 0 < f.left
  · rw [if_pos c1]
    simp only [evs, List.drop_zero, List.drop_succ_cons, Option.map_some, Option.map_none, List.getElem?_cons_zero, List.getElem?_cons_succ, List.set_cons_zero, List.set_cons_succ, List.map_cons, List.map_nil, List.length_cons, List.length_nil, List.take_succ_cons, List.take_zero, if_true, if_false, eq_self, List.contains_cons, List.contains_nil, List.reverse_cons, List.reverse_nil, List.nil_append, List.cons_append, List.append_nil, List.lookup_cons, reduceCtorEq, ↓reduceIte, Nat.reduceAdd, Nat.reduceSub, Nat.reduceBEq, String.reduceBEq, String.reduceEq, Nat.reduceLeDiff, Nat.reduceLT, Int.reduceLT, Int.reduceLE, Int.reduceEq, Int.reduceToNat, Int.reducePow, Int.reduceAdd, Int.reduceSub, Int.reduceMul, Int.reduceNeg, Nat.reducePow, Int.reduceMod, Int.reduceDiv, Nat.reduceEqDiff]
    exact ⟨_, feedC { f with left := f.left / many }, rfl, ⟨_, rfl, ⟨ok.cs, ok.at0, Int.ediv_nonneg ok.le0 (by omega)⟩, by show f.at_ + k ≤ _; omega⟩, below.mk h0⟩
  · rw [if_neg c1, seq_nx]
    have m1 : mulOk 53 f.at_ = true := mulOk_of 64 64 (by decide) (by omega) (by decide) (by decide) (by decide)
    have hF : Fd k (feedC { f with at_ := f.at_ + 1 }) := ⟨_, rfl, ⟨ok.cs, by show 0 ≤ f.at_ + 1; omega, ok.le0⟩, by show f.at_ + 1 + k ≤ _; omega⟩
    have hL5 : f__law_draw_L5 [some (.cell 0), some (.p (.int many)), none, none, none, none, none, none] (feedC f :: R) = .nx [some (.cell 0), some (.p (.int many)), some (.p (.int f.at_)), none, none, none, none, none] (feedC f :: R) := by
      unfold f__law_draw_L5
      simp only [evs, List.drop_zero, List.drop_succ_cons, Option.map_some, Option.map_none, List.getElem?_cons_zero, List.getElem?_cons_succ, List.set_cons_zero, List.set_cons_succ, List.map_cons, List.map_nil, List.length_cons, List.length_nil, List.take_succ_cons, List.take_zero, if_true, if_false, eq_self, List.contains_cons, List.contains_nil, List.reverse_cons, List.reverse_nil, List.nil_append, List.cons_append, List.append_nil, List.lookup_cons, reduceCtorEq, ↓reduceIte, Nat.reduceAdd, Nat.reduceSub, Nat.reduceBEq, String.reduceBEq, String.reduceEq, Nat.reduceLeDiff, Nat.reduceLT, Int.reduceLT, Int.reduceLE, Int.reduceEq, Int.reduceToNat, Int.reducePow, Int.reduceAdd, Int.reduceSub, Int.reduceMul, Int.reduceNeg, Nat.reducePow, Int.reduceMod, Int.reduceDiv, Nat.reduceEqDiff, get_at]
    have hL6 : f__law_draw_L6 [some (.cell 0), some (.p (.int many)), some (.p (.int f.at_)), none, none, none, none, none] (feedC f :: R) = .nx [some (.cell 0), some (.p (.int many)), some (.p (.int f.at_)), none, none, none, none, none] (feedC { f with at_ := f.at_ + 1 } :: R) := by
      unfold f__law_draw_L6
      simp only [evs, List.drop_zero, List.drop_succ_cons, Option.map_some, Option.map_none, List.getElem?_cons_zero, List.getElem?_cons_succ, List.set_cons_zero, List.set_cons_succ, List.map_cons, List.map_nil, List.length_cons, List.length_nil, List.take_succ_cons, List.take_zero, if_true, if_false, eq_self, List.contains_cons, List.contains_nil, List.reverse_cons, List.reverse_nil, List.nil_append, List.cons_append, List.append_nil, List.lookup_cons, reduceCtorEq, ↓reduceIte, Nat.reduceAdd, Nat.reduceSub, Nat.reduceBEq, String.reduceBEq, String.reduceEq, Nat.reduceLeDiff, Nat.reduceLT, Int.reduceLT, Int.reduceLE, Int.reduceEq, Int.reduceToNat, Int.reducePow, Int.reduceAdd, Int.reduceSub, Int.reduceMul, Int.reduceNeg, Nat.reducePow, Int.reduceMod, Int.reduceDiv, Nat.reduceEqDiff, put_at]
    have ok1 : FOk { f with at_ := f.at_ + 1 } := ⟨ok.cs, by show 0 ≤ f.at_ + 1; omega, ok.le0⟩
    have hk1 : ({ f with at_ := f.at_ + 1 } : Feed).at_ + k ≤ 1099511627776 := by show f.at_ + 1 + k ≤ _; omega
    rw [wSeq, hL5, seq_nx, wSeq, hL6, seq_nx]
    generalize { f with at_ := f.at_ + 1 } = f1 at hF ok1 hk1
    have hL7 : f__law_draw_L7 [some (.cell 0), some (.p (.int many)), some (.p (.int f.at_)), none, none, none, none, none] (feedC f1 :: R) = .nx [some (.cell 0), some (.p (.int many)), some (.p (.int f.at_)), some (.p (.int (53 * f.at_ + 19))), none, none, none, none] (feedC f1 :: R) := by
      unfold f__law_draw_L7
      simp only [evs, List.drop_zero, List.drop_succ_cons, Option.map_some, Option.map_none, List.getElem?_cons_zero, List.getElem?_cons_succ, List.set_cons_zero, List.set_cons_succ, List.map_cons, List.map_nil, List.length_cons, List.length_nil, List.take_succ_cons, List.take_zero, if_true, if_false, eq_self, List.contains_cons, List.contains_nil, List.reverse_cons, List.reverse_nil, List.nil_append, List.cons_append, List.append_nil, List.lookup_cons, reduceCtorEq, ↓reduceIte, Nat.reduceAdd, Nat.reduceSub, Nat.reduceBEq, String.reduceBEq, String.reduceEq, Nat.reduceLeDiff, Nat.reduceLT, Int.reduceLT, Int.reduceLE, Int.reduceEq, Int.reduceToNat, Int.reducePow, Int.reduceAdd, Int.reduceSub, Int.reduceMul, Int.reduceNeg, Nat.reducePow, Int.reduceMod, Int.reduceDiv, Nat.reduceEqDiff, m1]
    have hL8 : ∃ v : Int, f__law_draw_L8 [some (.cell 0), some (.p (.int many)), some (.p (.int f.at_)), some (.p (.int (53 * f.at_ + 19))), none, none, none, none] (feedC f1 :: R) = .nx [some (.cell 0), some (.p (.int many)), some (.p (.int f.at_)), some (.p (.int v)), none, none, none, none] (feedC f1 :: R) := by
      unfold f__law_draw_L8 f__law_draw_L9
      by_cases c2 : f1.cs = []
      · have c3 : (f1.cs.map P.int).isEmpty = true := by rw [c2]; rfl
        simp only [evs, List.drop_zero, List.drop_succ_cons, Option.map_some, Option.map_none, List.getElem?_cons_zero, List.getElem?_cons_succ, List.set_cons_zero, List.set_cons_succ, List.map_cons, List.map_nil, List.length_cons, List.length_nil, List.take_succ_cons, List.take_zero, if_true, if_false, eq_self, List.contains_cons, List.contains_nil, List.reverse_cons, List.reverse_nil, List.nil_append, List.cons_append, List.append_nil, List.lookup_cons, reduceCtorEq, ↓reduceIte, Nat.reduceAdd, Nat.reduceSub, Nat.reduceBEq, String.reduceBEq, String.reduceEq, Nat.reduceLeDiff, Nat.reduceLT, Int.reduceLT, Int.reduceLE, Int.reduceEq, Int.reduceToNat, Int.reducePow, Int.reduceAdd, Int.reduceSub, Int.reduceMul, Int.reduceNeg, Nat.reducePow, Int.reduceMod, Int.reduceDiv, Nat.reduceEqDiff, get_cells, ne_nil (pds_ints _), c3]
        exact ⟨_, rfl⟩
      · have c3 : (f1.cs.map P.int).isEmpty = false := by cases e : f1.cs <;> simp_all
        have c4 : (0 : Int) < ((f1.cs.map P.int).length : Nat) := by
          rw [List.length_map]
          have := List.length_pos_iff.mpr c2
          omega
        obtain ⟨x, e1, m⟩ := atI_lt (xs := f1.cs.map P.int) (i := f.at_ % ((f1.cs.map P.int).length : Nat)) (Int.emod_nonneg _ (by omega)) (Int.emod_lt_of_pos _ c4)
        obtain ⟨v, _, rfl⟩ := List.mem_map.mp m
        simp only [evs, List.drop_zero, List.drop_succ_cons, Option.map_some, Option.map_none, List.getElem?_cons_zero, List.getElem?_cons_succ, List.set_cons_zero, List.set_cons_succ, List.map_cons, List.map_nil, List.length_cons, List.length_nil, List.take_succ_cons, List.take_zero, if_true, if_false, eq_self, List.contains_cons, List.contains_nil, List.reverse_cons, List.reverse_nil, List.nil_append, List.cons_append, List.append_nil, List.lookup_cons, reduceCtorEq, ↓reduceIte, Nat.reduceAdd, Nat.reduceSub, Nat.reduceBEq, String.reduceBEq, String.reduceEq, Nat.reduceLeDiff, Nat.reduceLT, Int.reduceLT, Int.reduceLE, Int.reduceEq, Int.reduceToNat, Int.reducePow, Int.reduceAdd, Int.reduceSub, Int.reduceMul, Int.reduceNeg, Nat.reducePow, Int.reduceMod, Int.reduceDiv, Nat.reduceEqDiff, get_cells, ne_nil (pds_ints _), c3, c4, e1]
        exact ⟨_, rfl⟩
    obtain ⟨v, hL8⟩ := hL8
    rw [wSeq, hL7, seq_nx, wSeq, hL8, seq_nx]
    have hL10 : (∃ l : Int, 0 ≤ l ∧ ∃ x : Int, f__law_draw_L10 [some (.cell 0), some (.p (.int many)), some (.p (.int f.at_)), some (.p (.int v)), none, none, none, none] (feedC f1 :: R) = .rt (.p (.int (x % many))) (feedC { f1 with left := l } :: R)) ∨ f__law_draw_L10 [some (.cell 0), some (.p (.int many)), some (.p (.int f.at_)), some (.p (.int v)), none, none, none, none] (feedC f1 :: R) = .nx [some (.cell 0), some (.p (.int many)), some (.p (.int f.at_)), some (.p (.int v)), none, none, none, none] (feedC f1 :: R) := by
      unfold f__law_draw_L10 f__law_draw_L11 f__law_draw_L12
      by_cases c5 : f.at_ < ((f1.cs.map P.int).length : Nat)
      · by_cases c6 : 1000000000000000000 ≤ (if v < 0 then -v else v)
        · have c7 : decide (1000000000000000000 ≤ (if v < 0 then -v else v)) = true := decide_eq_true c6
          refine .inl ⟨((if v < 0 then -v else v) - 1000000000000000000) / many, Int.ediv_nonneg (by omega) (by omega), (if v < 0 then -v else v) - 1000000000000000000, ?_⟩
          simp only [evs, List.drop_zero, List.drop_succ_cons, Option.map_some, Option.map_none, List.getElem?_cons_zero, List.getElem?_cons_succ, List.set_cons_zero, List.set_cons_succ, List.map_cons, List.map_nil, List.length_cons, List.length_nil, List.take_succ_cons, List.take_zero, if_true, if_false, eq_self, List.contains_cons, List.contains_nil, List.reverse_cons, List.reverse_nil, List.nil_append, List.cons_append, List.append_nil, List.lookup_cons, reduceCtorEq, ↓reduceIte, Nat.reduceAdd, Nat.reduceSub, Nat.reduceBEq, String.reduceBEq, String.reduceEq, Nat.reduceLeDiff, Nat.reduceLT, Int.reduceLT, Int.reduceLE, Int.reduceEq, Int.reduceToNat, Int.reducePow, Int.reduceAdd, Int.reduceSub, Int.reduceMul, Int.reduceNeg, Nat.reducePow, Int.reduceMod, Int.reduceDiv, Nat.reduceEqDiff, get_cells, c5, c7, h0, hlog, put_left]
        · have c7 : decide (1000000000000000000 ≤ (if v < 0 then -v else v)) = false := decide_eq_false c6
          refine .inr ?_
          simp only [evs, List.drop_zero, List.drop_succ_cons, Option.map_some, Option.map_none, List.getElem?_cons_zero, List.getElem?_cons_succ, List.set_cons_zero, List.set_cons_succ, List.map_cons, List.map_nil, List.length_cons, List.length_nil, List.take_succ_cons, List.take_zero, if_true, if_false, eq_self, List.contains_cons, List.contains_nil, List.reverse_cons, List.reverse_nil, List.nil_append, List.cons_append, List.append_nil, List.lookup_cons, reduceCtorEq, ↓reduceIte, Nat.reduceAdd, Nat.reduceSub, Nat.reduceBEq, String.reduceBEq, String.reduceEq, Nat.reduceLeDiff, Nat.reduceLT, Int.reduceLT, Int.reduceLE, Int.reduceEq, Int.reduceToNat, Int.reducePow, Int.reduceAdd, Int.reduceSub, Int.reduceMul, Int.reduceNeg, Nat.reducePow, Int.reduceMod, Int.reduceDiv, Nat.reduceEqDiff, get_cells, c5, c7]
      · refine .inr ?_
        simp only [evs, List.drop_zero, List.drop_succ_cons, Option.map_some, Option.map_none, List.getElem?_cons_zero, List.getElem?_cons_succ, List.set_cons_zero, List.set_cons_succ, List.map_cons, List.map_nil, List.length_cons, List.length_nil, List.take_succ_cons, List.take_zero, if_true, if_false, eq_self, List.contains_cons, List.contains_nil, List.reverse_cons, List.reverse_nil, List.nil_append, List.cons_append, List.append_nil, List.lookup_cons, reduceCtorEq, ↓reduceIte, Nat.reduceAdd, Nat.reduceSub, Nat.reduceBEq, String.reduceBEq, String.reduceEq, Nat.reduceLeDiff, Nat.reduceLT, Int.reduceLT, Int.reduceLE, Int.reduceEq, Int.reduceToNat, Int.reducePow, Int.reduceAdd, Int.reduceSub, Int.reduceMul, Int.reduceNeg, Nat.reducePow, Int.reduceMod, Int.reduceDiv, Nat.reduceEqDiff, get_cells, c5]
    rcases hL10 with ⟨l, l0, x, e⟩ | e
    · rw [wSeq, e]
      simp only [evs, List.drop_zero, List.drop_succ_cons, Option.map_some, Option.map_none, List.getElem?_cons_zero, List.getElem?_cons_succ, List.set_cons_zero, List.set_cons_succ, List.map_cons, List.map_nil, List.length_cons, List.length_nil, List.take_succ_cons, List.take_zero, if_true, if_false, eq_self, List.contains_cons, List.contains_nil, List.reverse_cons, List.reverse_nil, List.nil_append, List.cons_append, List.append_nil, List.lookup_cons, reduceCtorEq, ↓reduceIte, Nat.reduceAdd, Nat.reduceSub, Nat.reduceBEq, String.reduceBEq, String.reduceEq, Nat.reduceLeDiff, Nat.reduceLT, Int.reduceLT, Int.reduceLE, Int.reduceEq, Int.reduceToNat, Int.reducePow, Int.reduceAdd, Int.reduceSub, Int.reduceMul, Int.reduceNeg, Nat.reducePow, Int.reduceMod, Int.reduceDiv, Nat.reduceEqDiff]
      exact ⟨_, feedC { f1 with left := l }, rfl, ⟨_, rfl, ⟨ok1.cs, ok1.at0, l0⟩, hk1⟩, below.mk h0⟩
    · rw [wSeq, e, seq_nx]
      have u0 := Int.emod_nonneg v (show (4294967231 : Int) ≠ 0 by decide)
      have u1 := Int.emod_lt_of_pos v (show (0 : Int) < 4294967231 by decide)
      have m2 : mulOk (v % 4294967231) 69069157 = true := mulOk_of 64 64 (by omega) (by decide) (by decide) (by decide) (by decide)
      have m3 : mulOk 50023 f.at_ = true := mulOk_of 64 64 (by decide) (by omega) (by decide) (by decide) (by decide)
      have m4 : mulOk (50023 * f.at_) f.at_ = true := mulOk_of 64 64 (by omega) (by omega) (by decide) (by decide) (by decide)
      have m5 : mulOk 786431 f.at_ = true := mulOk_of 64 64 (by decide) (by omega) (by decide) (by decide) (by decide)
      unfold f__law_draw_L13 f__law_draw_L14 f__law_draw_L15 f__law_draw_L20
      simp only [evs, List.drop_zero, List.drop_succ_cons, Option.map_some, Option.map_none, List.getElem?_cons_zero, List.getElem?_cons_succ, List.set_cons_zero, List.set_cons_succ, List.map_cons, List.map_nil, List.length_cons, List.length_nil, List.take_succ_cons, List.take_zero, if_true, if_false, eq_self, List.contains_cons, List.contains_nil, List.reverse_cons, List.reverse_nil, List.nil_append, List.cons_append, List.append_nil, List.lookup_cons, reduceCtorEq, ↓reduceIte, Nat.reduceAdd, Nat.reduceSub, Nat.reduceBEq, String.reduceBEq, String.reduceEq, Nat.reduceLeDiff, Nat.reduceLT, Int.reduceLT, Int.reduceLE, Int.reduceEq, Int.reduceToNat, Int.reducePow, Int.reduceAdd, Int.reduceSub, Int.reduceMul, Int.reduceNeg, Nat.reducePow, Int.reduceMod, Int.reduceDiv, Nat.reduceEqDiff, m2, m3, m4, m5]
      have w0 := Int.emod_nonneg (v % 4294967231 * 69069157 + 50023 * f.at_ * f.at_ + 786431 * f.at_ + 31) (show (4294967197 : Int) ≠ 0 by decide)
      have w1 := Int.emod_lt_of_pos (v % 4294967231 * 69069157 + 50023 * f.at_ * f.at_ + 786431 * f.at_ + 31) (show (0 : Int) < 4294967197 by decide)
      obtain ⟨r', tot, e1, e2, e3⟩ := draw_while (S := feedC f1 :: R) (x3 := some (.p (.int v))) (x5 := none) (used := f.at_) a0 (by omega) w0 (by omega) h0 h1
      rw [e1]
      simp only [evs, List.drop_zero, List.drop_succ_cons, Option.map_some, Option.map_none, List.getElem?_cons_zero, List.getElem?_cons_succ, List.set_cons_zero, List.set_cons_succ, List.map_cons, List.map_nil, List.length_cons, List.length_nil, List.take_succ_cons, List.take_zero, if_true, if_false, eq_self, List.contains_cons, List.contains_nil, List.reverse_cons, List.reverse_nil, List.nil_append, List.cons_append, List.append_nil, List.lookup_cons, reduceCtorEq, ↓reduceIte, Nat.reduceAdd, Nat.reduceSub, Nat.reduceBEq, String.reduceBEq, String.reduceEq, Nat.reduceLeDiff, Nat.reduceLT, Int.reduceLT, Int.reduceLE, Int.reduceEq, Int.reduceToNat, Int.reducePow, Int.reduceAdd, Int.reduceSub, Int.reduceMul, Int.reduceNeg, Nat.reducePow, Int.reduceMod, Int.reduceDiv, Nat.reduceEqDiff, e2, e3, h0]
      exact ⟨_, _, rfl, ⟨_, rfl, ok1, hk1⟩, below.mk h0⟩
theorem pick_ok {xs : List P} (h0 : 0 < xs.length) (h1 : xs.length < 2 ^ 64) : Drw 1 m__law_pick [.p (.lst xs)] (fun v => v ∈ xs) := by
  intro k c R hF
  obtain ⟨v, c', e, hF', i, rfl, i0, i1⟩ := draw_ok (many := xs.length) (by omega) (by omega) k c R hF
  obtain ⟨x, e2, hx⟩ := atI_lt i0 i1
  refine ⟨x, c', ?_, hF', hx⟩
  rw [m__law_pick_e]
  unfold f__law_pick f__law_pick_L1
  simp only [evs, List.drop_zero, List.drop_succ_cons, Option.map_some, Option.map_none, List.getElem?_cons_zero, List.getElem?_cons_succ, List.set_cons_zero, List.set_cons_succ, List.map_cons, List.map_nil, List.length_cons, List.length_nil, List.take_succ_cons, List.take_zero, if_true, if_false, eq_self, List.contains_cons, List.contains_nil, List.reverse_cons, List.reverse_nil, List.nil_append, List.cons_append, List.append_nil, List.lookup_cons, reduceCtorEq, ↓reduceIte, Nat.reduceAdd, Nat.reduceSub, Nat.reduceBEq, String.reduceBEq, String.reduceEq, Nat.reduceLeDiff, Nat.reduceLT, Int.reduceLT, Int.reduceLE, Int.reduceEq, Int.reduceToNat, Int.reducePow, Int.reduceAdd, Int.reduceSub, Int.reduceMul, Int.reduceNeg, Nat.reducePow, Int.reduceMod, Int.reduceDiv, Nat.reduceEqDiff, e, e2]
/-- a sign of a text -/
theorem pickS_ok {z : Str} (h0 : 0 < z.length) (h1 : z.length ≤ 1000) : Drw 1 m__law_pick [.p (.str z)] (fun v => ∃ c ∈ z.cps.toList, v = .str ⟨#[c]⟩) := by
  intro k c R hF
  obtain ⟨v, c', e, hF', i, rfl, i0, i1⟩ := draw_ok (many := z.length) (by omega) (by omega) k c R hF
  have hz : z.cps.toList.length = z.length := by simp [Str.length]
  obtain ⟨x, e2, hx⟩ := atI_lt (xs := z.cps.toList) i0 (by rw [hz]; exact i1)
  refine ⟨.str ⟨#[x]⟩, c', ?_, hF', x, hx, rfl⟩
  rw [m__law_pick_e]
  unfold f__law_pick f__law_pick_L1
  have hz : z.length ≤ 16777216 := by omega
  simp only [evs, List.drop_zero, List.drop_succ_cons, Option.map_some, Option.map_none, List.getElem?_cons_zero, List.getElem?_cons_succ, List.set_cons_zero, List.set_cons_succ, List.map_cons, List.map_nil, List.length_cons, List.length_nil, List.take_succ_cons, List.take_zero, if_true, if_false, eq_self, List.contains_cons, List.contains_nil, List.reverse_cons, List.reverse_nil, List.nil_append, List.cons_append, List.append_nil, List.lookup_cons, reduceCtorEq, ↓reduceIte, Nat.reduceAdd, Nat.reduceSub, Nat.reduceBEq, String.reduceBEq, String.reduceEq, Nat.reduceLeDiff, Nat.reduceLT, Int.reduceLT, Int.reduceLE, Int.reduceEq, Int.reduceToNat, Int.reducePow, Int.reduceAdd, Int.reduceSub, Int.reduceMul, Int.reduceNeg, Nat.reducePow, Int.reduceMod, Int.reduceDiv, Nat.reduceEqDiff, e, e2, hz]
/-! ### texts -/
def lets (z : Str) : Prop := ∀ c ∈ z.cps.toList, c ∈ abc.cps.toList
theorem app_l (a b : Str) : (a ++ b).cps.toList = a.cps.toList ++ b.cps.toList := PySem.W.KT.app_list a b
theorem len_l (a : Str) : a.cps.toList.length = a.length := Array.length_toList
theorem len_app (a b : Str) : (a ++ b).length = a.length + b.length := Str.length_append _ _
theorem lets_app {a b : Str} (ha : lets a) (hb : lets b) : lets (a ++ b) := fun c m => by
  rw [app_l, List.mem_append] at m
  exact m.elim (ha c) (hb c)
theorem cut_l (z : Str) (lo hi : Option Int) : (cutS z lo hi).cps.toList = (z.cps.toList.drop (HT.sIx z.length 0 lo)).take (HT.sIx z.length z.length hi - HT.sIx z.length 0 lo) := rfl
theorem mem_cutS {z : Str} {lo hi : Option Int} {c : Nat} (m : c ∈ (cutS z lo hi).cps.toList) : c ∈ z.cps.toList := by
  rw [cut_l] at m
  exact List.mem_of_mem_drop (List.mem_of_mem_take m)
theorem lets_cut {z : Str} {lo hi : Option Int} (h : lets z) : lets (cutS z lo hi) := fun c m => h c (mem_cutS m)
theorem cut_hi {z : Str} {k : Int} (h : 0 ≤ k) : ((cutS z none (some k)).length : Int) ≤ k := by
  rw [← len_l, cut_l, HT.sIx_none, List.length_take, List.length_drop]
  obtain ⟨n, rfl⟩ := Int.eq_ofNat_of_zero_le h
  rw [HT.sIx_nat]
  omega
theorem cut_lo {z : Str} {k : Int} (h : 0 ≤ k) (h1 : k ≤ z.length) : ((cutS z (some k) none).length : Int) = z.length - k := by
  rw [← len_l, cut_l, HT.sIx_none, List.length_take, List.length_drop]
  obtain ⟨n, rfl⟩ := Int.eq_ofNat_of_zero_le h
  rw [HT.sIx_nat, len_l]
  omega
theorem strsP_map {α : Type} (f : α → Str) : ∀ cs : List α, strsP (cs.map fun c => P.str (f c)) = some (cs.map f)
  | [] => rfl
  | c :: cs => by
    show (strsP (cs.map fun c => P.str (f c))).map _ = _
    rw [strsP_map f cs]
    rfl
theorem join_is (a : Str) (ys : List Str) : Txt.join a ys = Str.join a ys := StrLaws.glued_eq_join a ys
theorem join_chars : ∀ cs : List Nat, (Txt.join (Str.ofString "") (cs.map fun c => (⟨#[c]⟩ : Str))).cps.toList = cs
  | [] => rfl
  | [c] => rfl
  | c :: d :: r => by
    have ih := join_chars (d :: r)
    rw [join_is] at ih ⊢
    show ((⟨#[c]⟩ : Str) ++ Str.ofString "" ++ Str.join (Str.ofString "") ((d :: r).map fun c => (⟨#[c]⟩ : Str))).cps.toList = _
    rw [app_l, app_l, ih]
    rfl
theorem name_of {z : Str} (h1 : 1 ≤ z.length) (h2 : z.length ≤ 8) (h3 : lets z) : isName (.str z) = true := by
  simp only [isName, h1, h2, decide_true, Bool.true_and, List.all_eq_true, decide_eq_true_eq]
  exact h3
/-! ### drawn names, levels -/
theorem rng_len {lo : Int} {n : Nat} : (rngD lo n).length = n := by simp [rngD]
theorem rng_mem {lo : Int} {n : Nat} {d : D} (m : d ∈ rngD lo n) : ∃ i : Nat, i < n ∧ d = .p (.int (lo + i)) := by
  simp only [rngD, List.mem_map, List.mem_range] at m
  obtain ⟨i, h, e⟩ := m
  exact ⟨i, h, e.symm⟩
theorem in62_of {i : Int} (h0 : -1000000000 ≤ i) (h1 : i ≤ 1000000000) : in62 i = true := by
  unfold in62
  simp only [Bool.and_eq_true, decide_eq_true_eq]
  omega
/-- a comprehension that draws -/
theorem lcF_drw {T : Tgt} {fe : FE} {r0 : Rho} {R : Store} (n : Nat) (A : P → Prop) {ds : List D} {k : Nat} {c : Cell} (hF : Fd (k + n * ds.length) c) (h : ∀ d ∈ ds, ∀ j c, Fd (j + n) c → ∃ r x c', bindT T d r0 = some r ∧ fe r (c :: R) = .ok (.p x) (c' :: R) ∧ Fd j c' ∧ A x) (hl : ds.length ≤ 1000) :
    ∃ xs c', lcF T wYes fe r0 ds 0 (c :: R) = .ok xs (c' :: R) ∧ Fd k c' ∧ xs.length = ds.length ∧ ∀ x ∈ xs, A x := by
  obtain ⟨xs, S', h1, ⟨c', rfl, h2⟩, h3, h4⟩ := lcF_inv (T := T) (fe := fe) (r0 := r0) (fun j S => ∃ c, S = c :: R ∧ Fd (k + n * j) c) A (ds := ds) (n := 0) (k := 0) (S := c :: R) ⟨c, rfl, hF.le (by rw [Nat.zero_add]; exact Nat.le_refl _)⟩ (fun d m j S ⟨c, e, hc⟩ => by
    subst e
    obtain ⟨r, x, c', g1, g2, g3, g4⟩ := h d m (k + n * j) c (hc.le (by rw [Nat.mul_succ]; omega))
    exact ⟨r, x, _, g1, g2, ⟨c', rfl, g3⟩, g4⟩) (by rw [sz]; omega)
  exact ⟨xs, c', h1, h2.le (by omega), h3, h4⟩
theorem chars_of : ∀ {xs : List P}, (∀ x ∈ xs, ∃ c ∈ abc.cps.toList, x = .str ⟨#[c]⟩) → ∃ cs : List Nat, xs = cs.map (fun c => P.str ⟨#[c]⟩) ∧ ∀ c ∈ cs, c ∈ abc.cps.toList
  | [], _ => ⟨[], rfl, fun _ m => nomatch m⟩
  | x :: xs, h => by
    obtain ⟨c, m, rfl⟩ := h x (List.mem_cons_self ..)
    obtain ⟨cs, rfl, g⟩ := chars_of fun y m => h y (List.mem_cons_of_mem _ m)
    exact ⟨c :: cs, rfl, fun y m' => by
      rcases List.mem_cons.mp m' with rfl | m'
      · exact m
      · exact g y m'⟩
/-- a comprehension whose items have a property, each its own -/
theorem lcF_exM {α : Type} {F : α → D} {T : Tgt} {fe : FE} {r0 : Rho} {S : Store} (A : α → P → Prop) : ∀ {xs : List α} {n : Nat}, (∀ x ∈ xs, ∃ r v, bindT T (F x) r0 = some r ∧ fe r S = .ok (.p v) S ∧ A x v) → n + xs.length ≤ sizeLine →
    ∃ vs, lcF T wYes fe r0 (xs.map F) n S = .ok vs S ∧ vs.length = xs.length ∧ ∀ (i : Nat) x v, xs[i]? = some x → vs[i]? = some v → A x v
  | [], n, _, _ => ⟨[], rfl, rfl, fun i x v h _ => by simp at h⟩
  | d :: ds, n, h, hl => by
    obtain ⟨r, v, h1, h2, h3⟩ := h d (List.mem_cons_self ..)
    have hl : n + (ds.length + 1) ≤ sizeLine := hl
    obtain ⟨vs, g1, g2, g3⟩ := lcF_exM A (xs := ds) (n := n + 1) (fun x m => h x (List.mem_cons_of_mem _ m)) (by omega)
    refine ⟨v :: vs, ?_, by simp [g2], fun i x y e1 e2 => ?_⟩
    · rw [List.map_cons]
      unfold lcF
      rw [h1]
      dsimp only [wYes]
      rw [h2]
      have hb : decide (n < sizeLine) = true := decide_eq_true (by omega)
      dsimp only
      rw [hb]
      dsimp only
      rw [g1]
      rfl
    · cases i with
      | zero =>
        simp only [List.getElem?_cons_zero, Option.some.injEq] at e1 e2
        subst e1; subst e2
        exact h3
      | succ i =>
        simp only [List.getElem?_cons_succ] at e1 e2
        exact g3 i x y e1 e2
theorem rngD_map {lo : Int} {n : Nat} : rngD lo n = (List.range n).map fun (i : Nat) => D.p (.int (lo + (i : Int))) := rfl
theorem atI_natP {xs : List P} {i : Nat} {x : P} (h : xs[i]? = some x) : atI xs (i : Int) = some x := by
  have hi := (List.getElem?_eq_some_iff.mp h).1
  unfold atI ixN
  rw [if_pos (by omega), if_pos (by omega)]
  simpa using h
theorem sum_signs (cs : List Nat) : ((cs.map fun c => (⟨#[c]⟩ : Str)).map (·.length)).sum = cs.length := by
  induction cs with
  | nil => rfl
  | cons c cs ih => rw [List.map_cons, List.map_cons, List.sum_cons, ih, List.length_cons]; show 1 + _ = _; omega
theorem stem_ok {many : Int} {k : Nat} {c : Cell} {R : Store} {x5 x6 x7 x8 x9 x10 : Option D} (hF : Fd (k + 8) c) :
    ∃ b c', f__law_names_L2 [some (.cell 0), some (.p (.int many)), some (.p (.str abc)), none, none, x5, x6, x7, x8, x9, x10] (c :: R) = .nx [some (.cell 0), some (.p (.int many)), some (.p (.str abc)), some (.p (.str b)), none, x5, x6, x7, x8, x9, x10] (c' :: R) ∧ Fd k c' ∧ lets b ∧ b.length ≤ 7 := by
  obtain ⟨_, c1, e1, F1, n, rfl, n0, n1⟩ := draw_ok (many := 8) (by decide) (by decide) (k + 7) c R hF
  have hn := in62_of (i := n) (by omega) (by omega)
  have lab : abc.length = 26 := by decide +kernel
  obtain ⟨xs, c2, e2, F2, l2, hx⟩ := lcF_drw (T := .nm 4) (fe := f__law_names_E2) (r0 := [some (.cell 0), some (.p (.int many)), some (.p (.str abc)), none, none, x5, x6, x7, x8, x9, x10]) (R := R) 1 (fun x => ∃ c ∈ abc.cps.toList, x = .str ⟨#[c]⟩) (ds := rngD 0 n.toNat) (k := k) (c := c1) (F1.le (by rw [rng_len]; omega)) (fun d m j c hc => by
    obtain ⟨v, c', g1, g2, g3⟩ := pickS_ok (z := abc) (by omega) (by omega) j c R hc
    exact ⟨_, v, c', rfl, by unfold f__law_names_E2; simp only [evs, List.drop_zero, List.drop_succ_cons, Option.map_some, Option.map_none, List.getElem?_cons_zero, List.getElem?_cons_succ, List.set_cons_zero, List.set_cons_succ, List.map_cons, List.map_nil, List.length_cons, List.length_nil, List.take_succ_cons, List.take_zero, if_true, if_false, eq_self, List.contains_cons, List.contains_nil, List.reverse_cons, List.reverse_nil, List.nil_append, List.cons_append, List.append_nil, List.lookup_cons, reduceCtorEq, ↓reduceIte, Nat.reduceAdd, Nat.reduceSub, Nat.reduceBEq, String.reduceBEq, String.reduceEq, Nat.reduceLeDiff, Nat.reduceLT, Int.reduceLT, Int.reduceLE, Int.reduceEq, Int.reduceToNat, Int.reducePow, Int.reduceAdd, Int.reduceSub, Int.reduceMul, Int.reduceNeg, Nat.reducePow, Int.reduceMod, Int.reduceDiv, Nat.reduceEqDiff, g1], g2, g3⟩) (by rw [rng_len]; omega)
  rw [rng_len] at l2
  obtain ⟨cs, rfl, hcs⟩ := chars_of hx
  rw [List.length_map] at l2
  have z0 : (Str.ofString "").length = 0 := by decide +kernel
  have zs : ((cs.map fun c => (⟨#[c]⟩ : Str)).map (·.length)).sum + (cs.map fun c => (⟨#[c]⟩ : Str)).length * 0 ≤ 16777216 := by
    rw [sum_signs]
    omega
  have jc := join_chars cs
  refine ⟨Txt.join (Str.ofString "") (cs.map fun c => (⟨#[c]⟩ : Str)), c2, ?_, F2, fun c m => hcs c (by rw [← jc]; exact m), by rw [← len_l, jc]; omega⟩
  unfold f__law_names_L2
  simp only [evs, List.drop_zero, List.drop_succ_cons, Option.map_some, Option.map_none, List.getElem?_cons_zero, List.getElem?_cons_succ, List.set_cons_zero, List.set_cons_succ, List.map_cons, List.map_nil, List.length_cons, List.length_nil, List.take_succ_cons, List.take_zero, if_true, if_false, eq_self, List.contains_cons, List.contains_nil, List.reverse_cons, List.reverse_nil, List.nil_append, List.cons_append, List.append_nil, List.lookup_cons, reduceCtorEq, ↓reduceIte, Nat.reduceAdd, Nat.reduceSub, Nat.reduceBEq, String.reduceBEq, String.reduceEq, Nat.reduceLeDiff, Nat.reduceLT, Int.reduceLT, Int.reduceLE, Int.reduceEq, Int.reduceToNat, Int.reducePow, Int.reduceAdd, Int.reduceSub, Int.reduceMul, Int.reduceNeg, Nat.reducePow, Int.reduceMod, Int.reduceDiv, Nat.reduceEqDiff, e1, hn]
  rw [e2]
  simp only [evs, List.drop_zero, List.drop_succ_cons, Option.map_some, Option.map_none, List.getElem?_cons_zero, List.getElem?_cons_succ, List.set_cons_zero, List.set_cons_succ, List.map_cons, List.map_nil, List.length_cons, List.length_nil, List.take_succ_cons, List.take_zero, if_true, if_false, eq_self, List.contains_cons, List.contains_nil, List.reverse_cons, List.reverse_nil, List.nil_append, List.cons_append, List.append_nil, List.lookup_cons, reduceCtorEq, ↓reduceIte, Nat.reduceAdd, Nat.reduceSub, Nat.reduceBEq, String.reduceBEq, String.reduceEq, Nat.reduceLeDiff, Nat.reduceLT, Int.reduceLT, Int.reduceLE, Int.reduceEq, Int.reduceToNat, Int.reducePow, Int.reduceAdd, Int.reduceSub, Int.reduceMul, Int.reduceNeg, Nat.reducePow, Int.reduceMod, Int.reduceDiv, Nat.reduceEqDiff, strsP_map, z0, zs]
/-- a loop that knows what went before -/
theorem forF_pre {α : Type} {F : α → D} {T : Tgt} {f : FS} (I : List α → Rho → Store → Prop) : ∀ (xs pre : List α) {r : Rho} {S : Store}, I pre r S → (∀ pre' x post, pre ++ xs = pre' ++ x :: post → ∀ r S, I pre' r S → ∃ r1 r2 S2, bindT T (F x) r = some r1 ∧ f r1 S = .nx r2 S2 ∧ I (pre' ++ [x]) r2 S2) →
    ∃ r' S', forF T f (xs.map F) r S = .nx r' S' ∧ I (pre ++ xs) r' S'
  | [], pre, r, S, h0, _ => ⟨r, S, rfl, by simpa using h0⟩
  | x :: xs, pre, r, S, h0, h => by
    obtain ⟨r1, r2, S2, h1, h2, h3⟩ := h pre x xs rfl r S h0
    obtain ⟨r', S', g1, g2⟩ := forF_pre I xs (pre ++ [x]) h3 (fun p' y post e => h p' y post (by simpa using e))
    refine ⟨r', S', ?_, by simpa using g2⟩
    rw [List.map_cons]
    unfold forF
    rw [h1]
    dsimp only
    rw [h2]
    exact g1
theorem range_split {n x : Nat} {pre post : List Nat} (h : List.range n = pre ++ x :: post) : pre = List.range x ∧ x < n := by
  have e1 : (List.range n)[pre.length]? = some x := by rw [h]; simp
  have hl : pre.length < n := by
    have := (List.getElem?_eq_some_iff.mp e1).1
    simpa using this
  have ex : pre.length = x := by
    rw [List.getElem?_range hl] at e1
    exact Option.some.inj e1
  have e2 : (List.range n).take pre.length = pre := by rw [h]; simp
  rw [List.take_range] at e2
  refine ⟨?_, by omega⟩
  rw [← e2, ex, Nat.min_eq_left (by omega)]
/-- the name of that number -/
def chAt (bg st : Int) (i : Nat) : Nat := abc.cps.toList.getD ((bg + st * i) % 26).toNat 0
def tailAt (b : Str) (at_ tr : Int) (i : Nat) : Str := if tr = 0 then cutS b (some at_) none else cutS (cutS b (some at_) none) none (some ((i : Int) % 3))
def nameAt (b : Str) (at_ bg st tr : Int) (i : Nat) : Str := cutS b none (some at_) ++ (⟨#[chAt bg st i]⟩ : Str) ++ tailAt b at_ tr i
theorem abc_len : abc.cps.toList.length = 26 := by decide +kernel
theorem chAt_atI (bg st : Int) (i : Nat) : atI abc.cps.toList ((bg + st * i) % 26) = some (chAt bg st i) ∧ chAt bg st i ∈ abc.cps.toList := by
  have h0 := Int.emod_nonneg (bg + st * i) (show (26 : Int) ≠ 0 by decide)
  have h1 := Int.emod_lt_of_pos (bg + st * i) (show (0 : Int) < 26 by decide)
  generalize e : (bg + st * i) % 26 = j at h0 h1
  obtain ⟨n, rfl⟩ := Int.eq_ofNat_of_zero_le h0
  have hn : n < abc.cps.toList.length := by rw [abc_len]; omega
  have e2 : chAt bg st i = abc.cps.toList[n] := by
    unfold chAt
    rw [e]
    show abc.cps.toList.getD n 0 = _
    rw [List.getD_eq_getElem?_getD, List.getElem?_eq_getElem hn]
    rfl
  rw [e2]
  refine ⟨?_, List.getElem_mem hn⟩
  unfold atI ixN
  rw [if_pos (by omega), if_pos (by omega)]
  simp [hn]
theorem nameAt_inj {b : Str} {at_ bg st tr : Int} (hs : st ∈ [(1 : Int), 3, 5, 7, 9, 11, 15, 17]) {i j : Nat} (hi : i < 26) (hj : j < 26) (h : nameAt b at_ bg st tr i = nameAt b at_ bg st tr j) : i = j := by
  have e : (nameAt b at_ bg st tr i).cps.toList[(cutS b none (some at_)).cps.toList.length]? = (nameAt b at_ bg st tr j).cps.toList[(cutS b none (some at_)).cps.toList.length]? := by rw [h]
  unfold nameAt at e
  rw [app_l, app_l, app_l, app_l, List.append_assoc, List.append_assoc, List.getElem?_append_right (Nat.le_refl _), List.getElem?_append_right (Nat.le_refl _), Nat.sub_self] at e
  have e : chAt bg st i = chAt bg st j := by simpa using e
  unfold chAt at e
  have i0 := Int.emod_nonneg (bg + st * i) (show (26 : Int) ≠ 0 by decide)
  have i1 := Int.emod_lt_of_pos (bg + st * i) (show (0 : Int) < 26 by decide)
  have j0 := Int.emod_nonneg (bg + st * j) (show (26 : Int) ≠ 0 by decide)
  have j1 := Int.emod_lt_of_pos (bg + st * j) (show (0 : Int) < 26 by decide)
  have key : ∀ a < 26, ∀ c < 26, abc.cps.toList.getD a 0 = abc.cps.toList.getD c 0 → a = c := by decide +kernel
  have q := key _ (by omega) _ (by omega) e
  have q2 : (bg + st * i) % 26 = (bg + st * j) % 26 := by omega
  simp only [List.mem_cons, List.not_mem_nil, or_false] at hs
  rcases hs with rfl | rfl | rfl | rfl | rfl | rfl | rfl | rfl <;> omega
theorem names_nodup {b : Str} {at_ bg st tr : Int} (hs : st ∈ [(1 : Int), 3, 5, 7, 9, 11, 15, 17]) {n : Nat} (hn : n ≤ 26) : ((List.range n).map (nameAt b at_ bg st tr)).Nodup := by
  unfold List.Nodup
  rw [List.pairwise_map]
  refine List.Pairwise.imp_of_mem (fun {i j} hi hj hne e => hne ?_) (List.nodup_range (n := n))
  exact nameAt_inj hs (by have := List.mem_range.mp hi; omega) (by have := List.mem_range.mp hj; omega) e
theorem nameAt_ok {b : Str} {at_ bg st tr : Int} {i : Nat} (bl : lets b) (lb : b.length ≤ 7) (a0 : 0 ≤ at_) (a1 : at_ ≤ b.length) : isName (.str (nameAt b at_ bg st tr i)) = true ∧ (tailAt b at_ tr i).length ≤ b.length - at_ := by
  have c1 := cut_lo (z := b) (k := at_) a0 a1
  have c3 := cut_hi (z := b) (k := at_) a0
  have lt : ((tailAt b at_ tr i).length : Int) ≤ b.length - at_ ∧ lets (tailAt b at_ tr i) := by
    unfold tailAt
    split
    · exact ⟨by omega, lets_cut bl⟩
    · have c2 := cutS_length (cutS b (some at_) none) none (some ((i : Int) % 3))
      exact ⟨by omega, lets_cut (lets_cut bl)⟩
  have lc : (⟨#[chAt bg st i]⟩ : Str).length = 1 := rfl
  refine ⟨name_of ?_ ?_ (lets_app (lets_app (lets_cut bl) fun c m => ?_) lt.2), lt.1⟩
  · unfold nameAt
    rw [len_app, len_app]; omega
  · unfold nameAt
    rw [len_app, len_app]; omega
  · have e : c = chAt bg st i := by simpa using m
    rw [e]; exact (chAt_atI bg st i).2
theorem names_okE {n : Nat} (hn : n ≤ 26) : Drw 12 m__law_names [.p (.int n)] (fun v => ∃ zs : List Str, v = .lst (zs.map P.str) ∧ zs.length = n ∧ (∀ z ∈ zs, isName (.str z) = true) ∧ zs.Nodup) := by
  intro k c R hF
  rw [m__law_names_e]
  unfold f__law_names
  obtain ⟨b, c1, e1, F1, bl, lb⟩ := stem_ok (k := k + 4) (R := R) (many := n) (x5 := none) (x6 := none) (x7 := none) (x8 := none) (x9 := none) (x10 := none) hF
  obtain ⟨_, c3, e3, F3, at_, rfl, a0, a1⟩ := draw_ok (many := b.length + 1) (by omega) (by omega) (k + 3) c1 R F1
  obtain ⟨_, c4, e4, F4, bg, rfl, bg0, bg1⟩ := draw_ok (many := 26) (by decide) (by decide) (k + 2) c3 R F3
  obtain ⟨_, c5, e5, F5, tr, rfl, s0, s1⟩ := draw_ok (many := 2) (by decide) (by decide) (k + 1) c4 R F4
  obtain ⟨stp, c6, e6, F6, hstp⟩ := pick_ok (xs := [.int 1, .int 3, .int 5, .int 7, .int 9, .int 11, .int 15, .int 17]) (by decide) (by decide) k c5 R F5
  obtain ⟨st, rfl, hst⟩ : ∃ s : Int, stp = .int s ∧ s ∈ [(1 : Int), 3, 5, 7, 9, 11, 15, 17] := by
    simp only [List.mem_cons, List.not_mem_nil, or_false] at hstp
    rcases hstp with rfl | rfl | rfl | rfl | rfl | rfl | rfl | rfl <;> exact ⟨_, rfl, by decide⟩
  have st1 : 0 ≤ st ∧ st ≤ 25 := by
    simp only [List.mem_cons, List.not_mem_nil, or_false] at hst
    omega
  have hm := in62_of (i := (n : Int)) (by omega) (by omega)
  have hb : b.length ≤ 16777216 := by omega
  have h1 : f__law_names_L1 [some (.cell 0), some (.p (.int n)), none, none, none, none, none, none, none, none, none] (c :: R) = .nx [some (.cell 0), some (.p (.int n)), some (.p (.str abc)), none, none, none, none, none, none, none, none] (c :: R) := by
    unfold f__law_names_L1
    simp only [evs, List.drop_zero, List.drop_succ_cons, Option.map_some, Option.map_none, List.getElem?_cons_zero, List.getElem?_cons_succ, List.set_cons_zero, List.set_cons_succ, List.map_cons, List.map_nil, List.length_cons, List.length_nil, List.take_succ_cons, List.take_zero, if_true, if_false, eq_self, List.contains_cons, List.contains_nil, List.reverse_cons, List.reverse_nil, List.nil_append, List.cons_append, List.append_nil, List.lookup_cons, reduceCtorEq, ↓reduceIte, Nat.reduceAdd, Nat.reduceSub, Nat.reduceBEq, String.reduceBEq, String.reduceEq, Nat.reduceLeDiff, Nat.reduceLT, Int.reduceLT, Int.reduceLE, Int.reduceEq, Int.reduceToNat, Int.reducePow, Int.reduceAdd, Int.reduceSub, Int.reduceMul, Int.reduceNeg, Nat.reducePow, Int.reduceMod, Int.reduceDiv, Nat.reduceEqDiff]
  have h3 : f__law_names_L3 [some (.cell 0), some (.p (.int n)), some (.p (.str abc)), some (.p (.str b)), none, none, none, none, none, none, none] (c1 :: R) = .nx [some (.cell 0), some (.p (.int n)), some (.p (.str abc)), some (.p (.str b)), none, some (.p (.int at_)), some (.p (.int bg)), some (.p (.int tr)), none, none, none] (c5 :: R) := by
    unfold f__law_names_L3
    simp only [evs, List.drop_zero, List.drop_succ_cons, Option.map_some, Option.map_none, List.getElem?_cons_zero, List.getElem?_cons_succ, List.set_cons_zero, List.set_cons_succ, List.map_cons, List.map_nil, List.length_cons, List.length_nil, List.take_succ_cons, List.take_zero, if_true, if_false, eq_self, List.contains_cons, List.contains_nil, List.reverse_cons, List.reverse_nil, List.nil_append, List.cons_append, List.append_nil, List.lookup_cons, reduceCtorEq, ↓reduceIte, Nat.reduceAdd, Nat.reduceSub, Nat.reduceBEq, String.reduceBEq, String.reduceEq, Nat.reduceLeDiff, Nat.reduceLT, Int.reduceLT, Int.reduceLE, Int.reduceEq, Int.reduceToNat, Int.reducePow, Int.reduceAdd, Int.reduceSub, Int.reduceMul, Int.reduceNeg, Nat.reducePow, Int.reduceMod, Int.reduceDiv, Nat.reduceEqDiff, hb, e3, e4, e5]
  have h4 : f__law_names_L4 [some (.cell 0), some (.p (.int n)), some (.p (.str abc)), some (.p (.str b)), none, some (.p (.int at_)), some (.p (.int bg)), some (.p (.int tr)), none, none, none] (c5 :: R) = .nx [some (.cell 0), some (.p (.int n)), some (.p (.str abc)), some (.p (.str b)), none, some (.p (.int at_)), some (.p (.int bg)), some (.p (.int tr)), some (.p (.int st)), some (.cell (R.length + 1)), none] (c6 :: (R ++ [.lst []])) := by
    unfold f__law_names_L4
    simp only [evs, List.drop_zero, List.drop_succ_cons, Option.map_some, Option.map_none, List.getElem?_cons_zero, List.getElem?_cons_succ, List.set_cons_zero, List.set_cons_succ, List.map_cons, List.map_nil, List.length_cons, List.length_nil, List.take_succ_cons, List.take_zero, if_true, if_false, eq_self, List.contains_cons, List.contains_nil, List.reverse_cons, List.reverse_nil, List.nil_append, List.cons_append, List.append_nil, List.lookup_cons, reduceCtorEq, ↓reduceIte, Nat.reduceAdd, Nat.reduceSub, Nat.reduceBEq, String.reduceBEq, String.reduceEq, Nat.reduceLeDiff, Nat.reduceLT, Int.reduceLT, Int.reduceLE, Int.reduceEq, Int.reduceToNat, Int.reducePow, Int.reduceAdd, Int.reduceSub, Int.reduceMul, Int.reduceNeg, Nat.reducePow, Int.reduceMod, Int.reduceDiv, Nat.reduceEqDiff, e6]
  rw [wSeq, h1, seq_nx, wSeq, e1, seq_nx, wSeq, h3, seq_nx, wSeq, h4, seq_nx]
  have lab2 : abc.length ≤ 16777216 := by decide +kernel
  have turn : ∀ (i : Nat), i < n → ∀ (xs : List P) (x10 : Option D), xs.length < 100 → ∃ y10, f__law_names_B5 [some (.cell 0), some (.p (.int n)), some (.p (.str abc)), some (.p (.str b)), some (.p (.int (0 + (i : Int)))), some (.p (.int at_)), some (.p (.int bg)), some (.p (.int tr)), some (.p (.int st)), some (.cell (R.length + 1)), x10] (c6 :: (R ++ [.lst xs])) =
      .nx [some (.cell 0), some (.p (.int n)), some (.p (.str abc)), some (.p (.str b)), some (.p (.int (0 + (i : Int)))), some (.p (.int at_)), some (.p (.int bg)), some (.p (.int tr)), some (.p (.int st)), some (.cell (R.length + 1)), y10] (c6 :: (R ++ [.lst (xs ++ [P.str (nameAt b at_ bg st tr i)])])) := by
    intro i hi xs x10 hx
    have mo : mulOk st (0 + (i : Int)) = true := mulOk_of 64 64 (by omega) (by omega) (by decide) (by decide) (by decide)
    have ca := (chAt_atI bg st i).1
    rw [show (i : Int) = 0 + (i : Int) by omega] at ca
    obtain ⟨nm, lt⟩ := nameAt_ok (bg := bg) (st := st) (tr := tr) (i := i) bl lb a0 (by omega)
    have c1 := cut_lo (z := b) (k := at_) (by omega) (by omega)
    have c3 := cut_hi (z := b) (k := at_) a0
    have hz : (cutS b (some at_) none).length ≤ 16777216 := by omega
    have lc : (⟨#[chAt bg st i]⟩ : Str).length = 1 := rfl
    have g1 : (cutS b none (some at_)).length + (⟨#[chAt bg st i]⟩ : Str).length ≤ 16777216 := by omega
    have g2 : (cutS b none (some at_) ++ (⟨#[chAt bg st i]⟩ : Str)).length + (tailAt b at_ tr i).length ≤ 16777216 := by rw [len_app]; omega
    have hx2 : xs.length < 16777216 := by omega
    have hL6 : f__law_names_L6 [some (.cell 0), some (.p (.int n)), some (.p (.str abc)), some (.p (.str b)), some (.p (.int (0 + (i : Int)))), some (.p (.int at_)), some (.p (.int bg)), some (.p (.int tr)), some (.p (.int st)), some (.cell (R.length + 1)), x10] (c6 :: (R ++ [.lst xs])) =
      .nx [some (.cell 0), some (.p (.int n)), some (.p (.str abc)), some (.p (.str b)), some (.p (.int (0 + (i : Int)))), some (.p (.int at_)), some (.p (.int bg)), some (.p (.int tr)), some (.p (.int st)), some (.cell (R.length + 1)), some (.p (.str (tailAt b at_ tr i)))] (c6 :: (R ++ [.lst xs])) := by
      unfold f__law_names_L6 tailAt
      by_cases ct : tr = 0
      · have cd : decide (tr = 0) = true := decide_eq_true ct
        rw [if_pos ct]
        simp only [evs, List.drop_zero, List.drop_succ_cons, Option.map_some, Option.map_none, List.getElem?_cons_zero, List.getElem?_cons_succ, List.set_cons_zero, List.set_cons_succ, List.map_cons, List.map_nil, List.length_cons, List.length_nil, List.take_succ_cons, List.take_zero, if_true, if_false, eq_self, List.contains_cons, List.contains_nil, List.reverse_cons, List.reverse_nil, List.nil_append, List.cons_append, List.append_nil, List.lookup_cons, reduceCtorEq, ↓reduceIte, Nat.reduceAdd, Nat.reduceSub, Nat.reduceBEq, String.reduceBEq, String.reduceEq, Nat.reduceLeDiff, Nat.reduceLT, Int.reduceLT, Int.reduceLE, Int.reduceEq, Int.reduceToNat, Int.reducePow, Int.reduceAdd, Int.reduceSub, Int.reduceMul, Int.reduceNeg, Nat.reducePow, Int.reduceMod, Int.reduceDiv, Nat.reduceEqDiff, hb, cd]
      · have cd : decide (tr = 0) = false := decide_eq_false ct
        rw [if_neg ct]
        simp only [evs, List.drop_zero, List.drop_succ_cons, Option.map_some, Option.map_none, List.getElem?_cons_zero, List.getElem?_cons_succ, List.set_cons_zero, List.set_cons_succ, List.map_cons, List.map_nil, List.length_cons, List.length_nil, List.take_succ_cons, List.take_zero, if_true, if_false, eq_self, List.contains_cons, List.contains_nil, List.reverse_cons, List.reverse_nil, List.nil_append, List.cons_append, List.append_nil, List.lookup_cons, reduceCtorEq, ↓reduceIte, Nat.reduceAdd, Nat.reduceSub, Nat.reduceBEq, String.reduceBEq, String.reduceEq, Nat.reduceLeDiff, Nat.reduceLT, Int.reduceLT, Int.reduceLE, Int.reduceEq, Int.reduceToNat, Int.reducePow, Int.reduceAdd, Int.reduceSub, Int.reduceMul, Int.reduceNeg, Nat.reducePow, Int.reduceMod, Int.reduceDiv, Nat.reduceEqDiff, hb, cd, hz]
        rw [show (0 + (i : Int)) = (i : Int) by omega]
    refine ⟨some (.p (.str (tailAt b at_ tr i))), ?_⟩
    unfold f__law_names_B5 f__law_names_L7
    rw [wSeq, hL6, seq_nx]
    simp only [evs, List.drop_zero, List.drop_succ_cons, Option.map_some, Option.map_none, List.getElem?_cons_zero, List.getElem?_cons_succ, List.set_cons_zero, List.set_cons_succ, List.map_cons, List.map_nil, List.length_cons, List.length_nil, List.take_succ_cons, List.take_zero, if_true, if_false, eq_self, List.contains_cons, List.contains_nil, List.reverse_cons, List.reverse_nil, List.nil_append, List.cons_append, List.append_nil, List.lookup_cons, reduceCtorEq, ↓reduceIte, Nat.reduceAdd, Nat.reduceSub, Nat.reduceBEq, String.reduceBEq, String.reduceEq, Nat.reduceLeDiff, Nat.reduceLT, Int.reduceLT, Int.reduceLE, Int.reduceEq, Int.reduceToNat, Int.reducePow, Int.reduceAdd, Int.reduceSub, Int.reduceMul, Int.reduceNeg, Nat.reducePow, Int.reduceMod, Int.reduceDiv, Nat.reduceEqDiff, hb, mo, ca, lab2, g1, g2, hx2]
    simp [nameAt]
  obtain ⟨r', S', g1, y4, y10, er, eS⟩ := forF_pre (α := Nat) (F := fun i => D.p (.int (0 + (i : Int)))) (T := .nm 4) (f := f__law_names_B5) (fun pre r S => ∃ y4 y10, r = [some (.cell 0), some (.p (.int n)), some (.p (.str abc)), some (.p (.str b)), y4, some (.p (.int at_)), some (.p (.int bg)), some (.p (.int tr)), some (.p (.int st)), some (.cell (R.length + 1)), y10] ∧ S = c6 :: (R ++ [.lst (pre.map fun i => P.str (nameAt b at_ bg st tr i))]))
    (List.range n) [] (r := [some (.cell 0), some (.p (.int n)), some (.p (.str abc)), some (.p (.str b)), none, some (.p (.int at_)), some (.p (.int bg)), some (.p (.int tr)), some (.p (.int st)), some (.cell (R.length + 1)), none]) (S := c6 :: (R ++ [.lst []])) ⟨none, none, rfl, rfl⟩
    (fun pre i post e r S ⟨y4, y10, e1, e2⟩ => by
      subst e1; subst e2
      obtain ⟨ep, hi⟩ := range_split (by simpa using e)
      obtain ⟨z10, t1⟩ := turn i hi (pre.map fun i => P.str (nameAt b at_ bg st tr i)) y10 (by rw [ep]; simp; omega)
      exact ⟨_, _, _, rfl, t1, _, z10, rfl, by simp⟩)
  subst er; subst eS
  unfold f__law_names_L5 f__law_names_L8
  simp only [evs, List.drop_zero, List.drop_succ_cons, Option.map_some, Option.map_none, List.getElem?_cons_zero, List.getElem?_cons_succ, List.set_cons_zero, List.set_cons_succ, List.map_cons, List.map_nil, List.length_cons, List.length_nil, List.take_succ_cons, List.take_zero, if_true, if_false, eq_self, List.contains_cons, List.contains_nil, List.reverse_cons, List.reverse_nil, List.nil_append, List.cons_append, List.append_nil, List.lookup_cons, reduceCtorEq, ↓reduceIte, Nat.reduceAdd, Nat.reduceSub, Nat.reduceBEq, String.reduceBEq, String.reduceEq, Nat.reduceLeDiff, Nat.reduceLT, Int.reduceLT, Int.reduceLE, Int.reduceEq, Int.reduceToNat, Int.reducePow, Int.reduceAdd, Int.reduceSub, Int.reduceMul, Int.reduceNeg, Nat.reducePow, Int.reduceMod, Int.reduceDiv, Nat.reduceEqDiff, hm]
  rw [show Int.toNat (n : Int) = n from rfl, rngD_map, g1]
  simp only [evs, List.drop_zero, List.drop_succ_cons, Option.map_some, Option.map_none, List.getElem?_cons_zero, List.getElem?_cons_succ, List.set_cons_zero, List.set_cons_succ, List.map_cons, List.map_nil, List.length_cons, List.length_nil, List.take_succ_cons, List.take_zero, if_true, if_false, eq_self, List.contains_cons, List.contains_nil, List.reverse_cons, List.reverse_nil, List.nil_append, List.cons_append, List.append_nil, List.lookup_cons, reduceCtorEq, ↓reduceIte, Nat.reduceAdd, Nat.reduceSub, Nat.reduceBEq, String.reduceBEq, String.reduceEq, Nat.reduceLeDiff, Nat.reduceLT, Int.reduceLT, Int.reduceLE, Int.reduceEq, Int.reduceToNat, Int.reducePow, Int.reduceAdd, Int.reduceSub, Int.reduceMul, Int.reduceNeg, Nat.reducePow, Int.reduceMod, Int.reduceDiv, Nat.reduceEqDiff]
  refine ⟨_, _, rfl, F6, (List.range n).map (nameAt b at_ bg st tr), by simp [List.map_map], by simp, fun z m => ?_, names_nodup hst hn⟩
  obtain ⟨i, _, rfl⟩ := List.mem_map.mp m
  exact (nameAt_ok bl lb a0 (by omega)).1
/-! ### values that can be told by repr -/
/-- so deep at most, its text so long at most -/
def ascS (z : Str) : Prop := ∀ c ∈ z.cps.toList, c < 128
theorem ascS_app {a b : Str} (ha : ascS a) (hb : ascS b) : ascS (a ++ b) := fun c m => by
  rw [app_l, List.mem_append] at m
  exact m.elim (ha c) (hb c)
theorem ascS_join {a : Str} (ha : ascS a) : ∀ {ys : List Str}, (∀ y ∈ ys, ascS y) → ascS (Str.join a ys)
  | [], _ => fun c m => by cases m
  | [x], h => h x (List.mem_cons_self ..)
  | x :: y :: r, h => ascS_app (ascS_app (h x (List.mem_cons_self ..)) ha) (ascS_join ha fun z m => h z (List.mem_cons_of_mem _ m))
theorem ascS_fine {z : Str} {n : Nat} (h : ascS z) : fine n (.str z) = true := by
  have e : fine n (.str z) = PyData.strOk z := by cases n <;> rfl
  rw [e]
  exact strOk_of fun c m => Nat.lt_trans (h c m) (by decide)
theorem ascS_int (i : Int) : ascS (Str.ofString (toString i)) := fun c m => by
  by_cases h : c ≠ 45 ∧ (c < 48 ∨ 57 < c)
  · exact absurd m (int_text_free' c h i)
  · omega
theorem ascS_repr {z : Str} (h : ascS z) : ascS (reprText z) := by
  have hq : reprQuote z = 34 ∨ reprQuote z = 39 := by
    unfold reprQuote
    split <;> simp
  have hd : ∀ q, q = 34 ∨ q = 39 → ∀ c, c < 128 → ∀ x ∈ Builtin.Str.reprChar q c, x < 128 := by
    have : ∀ q ∈ [34, 39], ∀ c ∈ List.range 128, ∀ x ∈ Builtin.Str.reprChar q c, x < 128 := by decide +kernel
    exact fun q hq c hc => this q (by simpa using hq) c (List.mem_range.mpr hc)
  have hf : ∀ (l : List Nat) (acc : Array Nat), (∀ c ∈ l, c < 128) → (∀ x ∈ acc.toList, x < 128) → ∀ x ∈ (l.foldl (fun out c => out ++ (Builtin.Str.reprChar (reprQuote z) c).toArray) acc).toList, x < 128 := by
    intro l
    induction l with
    | nil => exact fun acc _ ha => ha
    | cons c l ih =>
      intro acc hl ha
      refine ih _ (fun d m => hl d (List.mem_cons_of_mem _ m)) fun x m => ?_
      rw [Array.toList_append, List.mem_append] at m
      rcases m with m | m
      · exact ha x m
      · exact hd _ hq c (hl c (List.mem_cons_self ..)) x (by simpa using m)
  intro x m
  unfold reprText at m
  rw [Array.toList_push, List.mem_append] at m
  rcases m with m | m
  · rw [← Array.foldl_toList] at m
    refine hf _ _ h (fun x m => ?_) x m
    have : x = reprQuote z := by simpa using m
    rcases hq with q | q <;> omega
  · have : x = reprQuote z := by simpa using m
    rcases hq with q | q <;> omega
def rp (d n : Nat) (v : P) : Prop := ∃ e, px v = some e ∧ e.showable = true ∧ e.depth ≤ d ∧ e.shown.length ≤ n ∧ ascS e.shown
def rpB (d n : Nat) (v : P) : Bool := match px v with
  | some e => e.showable && (decide (e.depth ≤ d) && (decide (e.shown.length ≤ n) && e.shown.cps.toList.all fun c => decide (c < 128)))
  | none => false
theorem rpB_ok {d n : Nat} {v : P} (h : rpB d n v = true) : rp d n v := by
  unfold rpB at h
  split at h
  · rename_i e he
    simp only [Bool.and_eq_true, decide_eq_true_eq, List.all_eq_true] at h
    exact ⟨e, he, h.1, h.2.1, h.2.2.1, h.2.2.2⟩
  · cases h
theorem rp.le {d n d' n' : Nat} {v : P} (h : rp d n v) (h1 : d ≤ d') (h2 : n ≤ n') : rp d' n' v := let ⟨e, a, b, c, f, g⟩ := h; ⟨e, a, b, by omega, by omega, g⟩
theorem rp_int {i : Int} (h : i.natAbs < 10 ^ 60) : rp 0 61 (.int i) := by
  refine ⟨.int i, rfl, ?_, by simp [PyData.depth], ?_, ascS_int i⟩
  · simp only [PyData.showable, decide_eq_true_eq]
    by_cases h0 : i.natAbs = 0
    · rw [h0]; decide
    · exact (Nat.log2_lt h0).mpr (Nat.lt_trans h (by decide +kernel))
  · show (Str.ofString (toString i)).length ≤ 61
    rw [PySem.Str.ofString_eq_toList]
    have := int_text_length_le10 (a := i) (k := 60) (by decide) h
    show (((toString i).toList.map Char.toNat).toArray).size ≤ 61
    rw [List.size_toArray, List.length_map, String.length_toList]
    exact this
theorem rp_str {z : Str} {n : Nat} (h : ∀ c ∈ z.cps.toList, c < 128) (hn : 10 * z.length + 2 ≤ n) : rp 0 n (.str z) :=
  ⟨.str z, rfl, rfl, by simp [PyData.depth], by
    show (reprText z).length ≤ n
    have := StrLaws.reprText_len z fun c m => Nat.lt_trans (h c m) (by decide)
    omega, ascS_repr h⟩
theorem rps_of {d n : Nat} : ∀ {xs : List P}, (∀ x ∈ xs, rp d n x) → ∃ es, pxs xs = some es ∧ PyData.showableAll es = true ∧ PyData.depthAll es ≤ d ∧ es.length = xs.length ∧ (∀ t ∈ PyData.shownAll es, t.length ≤ n) ∧ ∀ t ∈ PyData.shownAll es, ascS t
  | [], _ => ⟨[], rfl, rfl, by simp [PyData.depthAll], rfl, fun t m => by simp [PyData.shownAll] at m, fun t m => by simp [PyData.shownAll] at m⟩
  | x :: xs, h => by
    obtain ⟨e, a, b, c, f, g⟩ := h x (List.mem_cons_self ..)
    obtain ⟨es, a', b', c', l', f', g'⟩ := rps_of fun y m => h y (List.mem_cons_of_mem _ m)
    refine ⟨e :: es, by simp [pxs, a, a'], by simp [PyData.showableAll, b, b'], by simp [PyData.depthAll]; omega, by simp [l'], fun t m => ?_, fun t m => ?_⟩
    · simp only [PyData.shownAll, List.mem_cons] at m
      rcases m with rfl | m
      · exact f
      · exact f' t m
    · simp only [PyData.shownAll, List.mem_cons] at m
      rcases m with rfl | m
      · exact g
      · exact g' t m
theorem sum_le {n : Nat} : ∀ {ts : List Str}, (∀ t ∈ ts, t.length ≤ n) → (ts.map (·.length)).sum ≤ ts.length * n
  | [], _ => by simp
  | t :: ts, h => by
    have h1 := h t (List.mem_cons_self ..)
    have h2 := sum_le fun y m => h y (List.mem_cons_of_mem t m)
    simp only [List.map_cons, List.sum_cons, List.length_cons, Nat.succ_mul]
    omega
theorem join_le {n : Nat} {ts : List Str} (h : ∀ t ∈ ts, t.length ≤ n) : (Str.join ", " ts).length ≤ ts.length * (n + 2) := by
  have h1 := StrLaws.join_length_le ", " ts
  have h2 := sum_le h
  have h3 : (", " : Str).length = 2 := by decide +kernel
  rw [h3] at h1
  rw [Nat.mul_add]
  omega
theorem shown_len {es : List PyData} : (PyData.shownAll es).length = es.length := by
  induction es with
  | nil => rfl
  | cons e es ih => simp [PyData.shownAll, ih]
theorem rp_lst {d n m : Nat} {xs : List P} (h : ∀ x ∈ xs, rp d n x) (hm : xs.length * (n + 2) + 2 ≤ m) : rp (d + 1) m (.lst xs) := by
  obtain ⟨es, a, b, c, l, f, g⟩ := rps_of h
  have cm : ascS (", " : Str) := by unfold ascS; decide +kernel
  refine ⟨.list es, by simp [px, a], by simpa [PyData.showable] using b, by simp [PyData.depth]; omega, ?_, by
    show ascS (listText (PyData.shownAll es))
    rw [listText_eq_join]
    exact ascS_app (ascS_app (by unfold ascS; decide +kernel) (ascS_join cm g)) (by unfold ascS; decide +kernel)⟩
  have h1 := join_le f
  rw [shown_len, l] at h1
  have e1 : ("[" : Str).length = 1 := by decide +kernel
  have e2 : ("]" : Str).length = 1 := by decide +kernel
  show (listText (PyData.shownAll es)).length ≤ m
  rw [listText_eq_join, len_app, len_app, e1, e2]
  omega
theorem rp_tup {d n m : Nat} {xs : List P} (h : ∀ x ∈ xs, rp d n x) (hm : xs.length * (n + 2) + 3 ≤ m) : rp (d + 1) m (.tup xs) := by
  obtain ⟨es, a, b, c, l, f, g⟩ := rps_of h
  have cm : ascS (", " : Str) := by unfold ascS; decide +kernel
  refine ⟨.tuple es, by simp [px, a], by simpa [PyData.showable] using b, by simp [PyData.depth]; omega, ?_, by
    show ascS (("(" : Str) ++ Str.join ", " (PyData.shownAll es) ++ Str.ofString (if ((PyData.shownAll es).length == 1) = true then ",)" else ")"))
    refine ascS_app (ascS_app (by unfold ascS; decide +kernel) (ascS_join cm g)) ?_
    cases ((PyData.shownAll es).length == 1) <;> (unfold ascS; decide +kernel)⟩
  have h1 := join_le f
  rw [shown_len, l] at h1
  have e1 : ("(" : Str).length = 1 := by decide +kernel
  have e2 : ∀ q : Bool, (Str.ofString (if q = true then ",)" else ")")).length ≤ 2 := by
    intro q
    cases q <;> decide +kernel
  show (("(" : Str) ++ Str.join ", " (PyData.shownAll es) ++ Str.ofString (if ((PyData.shownAll es).length == 1) = true then ",)" else ")")).length ≤ m
  rw [len_app, len_app, e1]
  have := e2 ((PyData.shownAll es).length == 1)
  omega
theorem rp_dict1 {d n : Nat} {v : P} (h : rp d n v) : rp (d + 1) (n + 10) (.dK [.inr (Str.ofString "a")] [v]) := by
  obtain ⟨e, a, b, c, f, g⟩ := h
  refine ⟨.dict [(.str (Str.ofString "a"), e)], by simp [px, pxs, a, keyD], by simp [PyData.showable, PyData.showableKv, b], by simp [PyData.depth, PyData.depthKv]; omega, ?_, by
    show ascS (("{" : Str) ++ (reprText (Str.ofString "a") ++ ": " ++ e.shown) ++ "}")
    exact ascS_app (ascS_app (by unfold ascS; decide +kernel) (ascS_app (ascS_app (by unfold ascS; decide +kernel) (by unfold ascS; decide +kernel)) g)) (by unfold ascS; decide +kernel)⟩
  show (("{" : Str) ++ (reprText (Str.ofString "a") ++ ": " ++ e.shown) ++ "}").length ≤ n + 10
  have e1 : ("{" : Str).length = 1 := by decide +kernel
  have e2 : ("}" : Str).length = 1 := by decide +kernel
  have e3 : (": " : Str).length = 2 := by decide +kernel
  have e4 : (reprText (Str.ofString "a")).length = 3 := by decide +kernel
  rw [len_app, len_app, len_app, len_app, e1, e2, e3, e4]
  omega
/-! ### texts of values -/
/-- the text of a value -/
def tx (v : P) : Str := match px v with
  | some e => e.shown
  | none => Str.ofString ""
theorem repr_tx {d n : Nat} {v : P} (h : rp d n v) (hd : d ≤ 60) (hn : n ≤ 16777216) (S : Store) : dRepr (.p v) S = .ok (.p (.str (tx v))) S := by
  obtain ⟨e, h1, h2, h3, h4, _⟩ := h
  unfold dRepr tx
  have : pxD S (.p v) = px v := rfl
  rw [this, h1]
  have a1 : decide (e.depth ≤ 60) = true := decide_eq_true (by omega)
  have a2 : decide (e.shown.length ≤ sizeLine) = true := decide_eq_true (by rw [sz]; omega)
  simp only [h2, a1, a2, Bool.and_self, chk_true]
theorem tx_asc {d n : Nat} {v : P} (h : rp d n v) : ascS (tx v) := by
  obtain ⟨e, h1, _, _, _, h5⟩ := h
  unfold tx
  rw [h1]
  exact h5
theorem repr_cell {d n k : Nat} {xs : List P} {S : Store} (h : rp d n (.lst xs)) (hd : d ≤ 60) (hn : n ≤ 16777216) (hs : S[k]? = some (.lst xs)) : dRepr (.cell k) S = .ok (.p (.str (tx (.lst xs)))) S := by
  have := repr_tx h hd hn S
  have e : pxD S (.cell k) = pxD S (.p (.lst xs)) := by simp only [pxD, hs, px]
  unfold dRepr at this ⊢
  rw [e]
  exact this
mutual
theorem peq_refl : ∀ {n : Nat} {v : P}, fine n v = true → peq v v = true
  | _, .non, _ => by simp [peq]
  | _, .bl _, _ => by simp [peq]
  | _, .int _, _ => by simp [peq]
  | _, .str _, _ => by simp [peq]
  | n + 1, .lst xs, h => by simp only [fine] at h; simp only [peq]; exact peqs_refl h
  | n + 1, .tup xs, h => by simp only [fine] at h; simp only [peq]; exact peqs_refl h
  | 0, .lst _, h => by simp [fine] at h
  | 0, .tup _, h => by simp [fine] at h
  | _, .ty _, h => by simp [fine] at h
  | _, .scr _, h => by simp [fine] at h
  | _, .dK _ _, h => by simp [fine] at h
  | _, .dT _ _, h => by simp [fine] at h
  | _, .obj _ _ _, h => by simp [fine] at h
theorem peqs_refl : ∀ {n : Nat} {v : List P}, fines n v = true → peqs v v = true
  | _, [], _ => by simp [peqs]
  | n, x :: xs, h => by
    simp only [fines, Bool.and_eq_true] at h
    simp only [peqs, peq_refl h.1, peqs_refl h.2, Bool.and_self]
end
theorem ne_same {v : P} {S : Store} (h : fine 64 v = true) : dEqv true (.p v) (.p v) S = .ok (.p (.bl false)) S := by
  rw [eq_P h h, peq_refl h]
  rfl
/-! ### items of an order -/
abbrev sLay : Str := Str.ofString "lay"
abbrev sCut : Str := Str.ofString "cut"
abbrev sDike : Str := Str.ofString "dike"
abbrev sBl : Str := Str.ofString " "
abbrev Itm : Type := Str × Str
def sgn (k : Str) : Str := if k = sLay then Str.ofString "+" else if k = sCut then Str.ofString "~" else Str.ofString "#"
def encI (i : Itm) : P := .tup [.str i.1, .str i.2]
structure IOk (i : Itm) : Prop where
  k : i.1 = sLay ∨ i.1 = sCut ∨ i.1 = sDike
  n : isName (.str i.2) = true
def word (i : Itm) : Str := sgn i.1 ++ i.2
def form (os : List Itm) : Str := Txt.join sBl (os.map word)
theorem sgn_lay : sgn sLay = Str.ofString "+" := if_pos rfl
theorem sgn_cut : sgn sCut = Str.ofString "~" := by decide +kernel
theorem sgn_dike : sgn sDike = Str.ofString "#" := by decide +kernel
theorem sgn_len (k : Str) : (sgn k).length = 1 := by
  unfold sgn
  split
  · decide +kernel
  · split <;> decide +kernel
theorem tab_sgn {k : Str} (h : k = sLay ∨ k = sCut ∨ k = sDike) : tabL tab_SIGNS k = some (sgn k) := by
  rcases h with rfl | rfl | rfl <;> decide +kernel
theorem word_len {i : Itm} (h : IOk i) : 2 ≤ (word i).length ∧ (word i).length ≤ 9 := by
  have := name_chars h.n
  unfold word
  rw [len_app, sgn_len]
  omega
theorem words_len : ∀ {os : List Itm}, (∀ i ∈ os, IOk i) → ((os.map word).map (·.length)).sum ≤ 9 * os.length
  | [], _ => by simp
  | i :: os, h => by
    have h1 := word_len (h i (List.mem_cons_self ..))
    have h2 := words_len fun j m => h j (List.mem_cons_of_mem i m)
    simp only [List.map_cons, List.sum_cons, List.length_cons]
    omega
theorem bl_len : sBl.length = 1 := by decide +kernel
theorem form_len {os : List Itm} (h : ∀ i ∈ os, IOk i) : (form os).length ≤ 10 * os.length := by
  have h1 := StrLaws.join_length_le sBl (os.map word)
  have h2 := words_len h
  unfold form
  rw [join_is]
  rw [bl_len, List.length_map] at h1
  omega
/-- a kind's sign, from a dict of this place -/
theorem get_sgn {k : Str} {S : Store} (h : k = sLay ∨ k = sCut ∨ k = sDike) : dDGet (.p (.dK [.inr sLay, .inr sCut, .inr sDike] [.str (Str.ofString "+"), .str (Str.ofString "~"), .str (Str.ofString "#")])) (.p (.str k)) S = .ok (.p (.str (sgn k))) S := by
  rcases h with rfl | rfl | rfl
  · simp only [dDGet, keyOf, klook, Sum.inr.injEq, of_inj, String.reduceEq, if_false, if_true, sgn_lay]
  · simp only [dDGet, keyOf, klook, Sum.inr.injEq, of_inj, String.reduceEq, if_false, if_true, sgn_cut]
  · simp only [dDGet, keyOf, klook, Sum.inr.injEq, of_inj, String.reduceEq, if_false, if_true, sgn_dike]
theorem order_text_eq {os : List Itm} (h : ∀ i ∈ os, IOk i) (hl : os.length ≤ 1000) (S : Store) : m_order_text [.p (.lst (os.map encI))] S = .ok (.p (.str (form os))) S ∧ m_order_text [.p (.tup (os.map encI))] S = .ok (.p (.str (form os))) S := by
  have z1 := words_len h
  have zs : ((os.map word).map (·.length)).sum + (os.map word).length * 1 ≤ 16777216 := by
    rw [List.length_map]; omega
  have lc : ∀ (a0 : D) (k : Option D) (n : Option D), lcF (.tp [1, 2]) wYes f_order_text_E1 [some a0, k, n] ((os.map encI).map D.p) 0 S = .ok (os.map fun i => P.str (word i)) S := fun a0 k n => by
    rw [List.map_map]
    refine lcF_mapM (F := D.p ∘ encI) (fun i => P.str (word i)) (fun i m => ⟨_, rfl, ?_⟩) (by rw [sz]; omega)
    have hi := h i m
    have hd := dTab_e (S := S) (tab_sgn hi.k)
    have g1 : (sgn i.1).length + i.2.length ≤ 16777216 := by
      have := name_chars hi.n
      rw [sgn_len]
      omega
    unfold f_order_text_E1
    simp only [evs, List.drop_zero, List.drop_succ_cons, Option.map_some, Option.map_none, List.getElem?_cons_zero, List.getElem?_cons_succ, List.set_cons_zero, List.set_cons_succ, List.map_cons, List.map_nil, List.length_cons, List.length_nil, List.take_succ_cons, List.take_zero, if_true, if_false, eq_self, List.contains_cons, List.contains_nil, List.reverse_cons, List.reverse_nil, List.nil_append, List.cons_append, List.append_nil, List.lookup_cons, reduceCtorEq, ↓reduceIte, Nat.reduceAdd, Nat.reduceSub, Nat.reduceBEq, String.reduceBEq, String.reduceEq, Nat.reduceLeDiff, Nat.reduceLT, Int.reduceLT, Int.reduceLE, Int.reduceEq, Int.reduceToNat, Int.reducePow, Int.reduceAdd, Int.reduceSub, Int.reduceMul, Int.reduceNeg, Nat.reducePow, Int.reduceMod, Int.reduceDiv, Nat.reduceEqDiff, hd, g1]
    rfl
  constructor
  · rw [m_order_text_e]
    unfold f_order_text f_order_text_L1
    simp only [evs, List.drop_zero, List.drop_succ_cons, Option.map_some, Option.map_none, List.getElem?_cons_zero, List.getElem?_cons_succ, List.set_cons_zero, List.set_cons_succ, List.map_cons, List.map_nil, List.length_cons, List.length_nil, List.take_succ_cons, List.take_zero, if_true, if_false, eq_self, List.contains_cons, List.contains_nil, List.reverse_cons, List.reverse_nil, List.nil_append, List.cons_append, List.append_nil, List.lookup_cons, reduceCtorEq, ↓reduceIte, Nat.reduceAdd, Nat.reduceSub, Nat.reduceBEq, String.reduceBEq, String.reduceEq, Nat.reduceLeDiff, Nat.reduceLT, Int.reduceLT, Int.reduceLE, Int.reduceEq, Int.reduceToNat, Int.reducePow, Int.reduceAdd, Int.reduceSub, Int.reduceMul, Int.reduceNeg, Nat.reducePow, Int.reduceMod, Int.reduceDiv, Nat.reduceEqDiff]
    rw [lc]
    simp only [evs, List.drop_zero, List.drop_succ_cons, Option.map_some, Option.map_none, List.getElem?_cons_zero, List.getElem?_cons_succ, List.set_cons_zero, List.set_cons_succ, List.map_cons, List.map_nil, List.length_cons, List.length_nil, List.take_succ_cons, List.take_zero, if_true, if_false, eq_self, List.contains_cons, List.contains_nil, List.reverse_cons, List.reverse_nil, List.nil_append, List.cons_append, List.append_nil, List.lookup_cons, reduceCtorEq, ↓reduceIte, Nat.reduceAdd, Nat.reduceSub, Nat.reduceBEq, String.reduceBEq, String.reduceEq, Nat.reduceLeDiff, Nat.reduceLT, Int.reduceLT, Int.reduceLE, Int.reduceEq, Int.reduceToNat, Int.reducePow, Int.reduceAdd, Int.reduceSub, Int.reduceMul, Int.reduceNeg, Nat.reducePow, Int.reduceMod, Int.reduceDiv, Nat.reduceEqDiff, strsP_map, bl_len, zs]
    rfl
  · rw [m_order_text_e]
    unfold f_order_text f_order_text_L1
    simp only [evs, List.drop_zero, List.drop_succ_cons, Option.map_some, Option.map_none, List.getElem?_cons_zero, List.getElem?_cons_succ, List.set_cons_zero, List.set_cons_succ, List.map_cons, List.map_nil, List.length_cons, List.length_nil, List.take_succ_cons, List.take_zero, if_true, if_false, eq_self, List.contains_cons, List.contains_nil, List.reverse_cons, List.reverse_nil, List.nil_append, List.cons_append, List.append_nil, List.lookup_cons, reduceCtorEq, ↓reduceIte, Nat.reduceAdd, Nat.reduceSub, Nat.reduceBEq, String.reduceBEq, String.reduceEq, Nat.reduceLeDiff, Nat.reduceLT, Int.reduceLT, Int.reduceLE, Int.reduceEq, Int.reduceToNat, Int.reducePow, Int.reduceAdd, Int.reduceSub, Int.reduceMul, Int.reduceNeg, Nat.reducePow, Int.reduceMod, Int.reduceDiv, Nat.reduceEqDiff]
    rw [lc]
    simp only [evs, List.drop_zero, List.drop_succ_cons, Option.map_some, Option.map_none, List.getElem?_cons_zero, List.getElem?_cons_succ, List.set_cons_zero, List.set_cons_succ, List.map_cons, List.map_nil, List.length_cons, List.length_nil, List.take_succ_cons, List.take_zero, if_true, if_false, eq_self, List.contains_cons, List.contains_nil, List.reverse_cons, List.reverse_nil, List.nil_append, List.cons_append, List.append_nil, List.lookup_cons, reduceCtorEq, ↓reduceIte, Nat.reduceAdd, Nat.reduceSub, Nat.reduceBEq, String.reduceBEq, String.reduceEq, Nat.reduceLeDiff, Nat.reduceLT, Int.reduceLT, Int.reduceLE, Int.reduceEq, Int.reduceToNat, Int.reducePow, Int.reduceAdd, Int.reduceSub, Int.reduceMul, Int.reduceNeg, Nat.reducePow, Int.reduceMod, Int.reduceDiv, Nat.reduceEqDiff, strsP_map, bl_len, zs]
    rfl
theorem written_eq {os : List Itm} (h : ∀ i ∈ os, IOk i) (hl : os.length ≤ 1000) (S : Store) : m__law_written [.p (.lst (os.map encI))] S = .ok (.p (.str (form os))) S := by
  have z1 := words_len h
  have zs : ((os.map word).map (·.length)).sum + (os.map word).length * 1 ≤ 16777216 := by
    rw [List.length_map]; omega
  have lc : ∀ (a0 : D) (k : Option D) (n : Option D), lcF (.tp [1, 2]) wYes f__law_written_E1 [some a0, k, n] ((os.map encI).map D.p) 0 S = .ok (os.map fun i => P.str (word i)) S := fun a0 k n => by
    rw [List.map_map]
    refine lcF_mapM (F := D.p ∘ encI) (fun i => P.str (word i)) (fun i m => ⟨_, rfl, ?_⟩) (by rw [sz]; omega)
    have hi := h i m
    have hd := get_sgn (S := S) hi.k
    have g1 : (sgn i.1).length + i.2.length ≤ 16777216 := by
      have := name_chars hi.n
      rw [sgn_len]
      omega
    unfold f__law_written_E1
    simp only [evs, List.drop_zero, List.drop_succ_cons, Option.map_some, Option.map_none, List.getElem?_cons_zero, List.getElem?_cons_succ, List.set_cons_zero, List.set_cons_succ, List.map_cons, List.map_nil, List.length_cons, List.length_nil, List.take_succ_cons, List.take_zero, if_true, if_false, eq_self, List.contains_cons, List.contains_nil, List.reverse_cons, List.reverse_nil, List.nil_append, List.cons_append, List.append_nil, List.lookup_cons, reduceCtorEq, ↓reduceIte, Nat.reduceAdd, Nat.reduceSub, Nat.reduceBEq, String.reduceBEq, String.reduceEq, Nat.reduceLeDiff, Nat.reduceLT, Int.reduceLT, Int.reduceLE, Int.reduceEq, Int.reduceToNat, Int.reducePow, Int.reduceAdd, Int.reduceSub, Int.reduceMul, Int.reduceNeg, Nat.reducePow, Int.reduceMod, Int.reduceDiv, Nat.reduceEqDiff, hd, g1, nodupB, List.any_cons, List.any_nil, Sum.inr.injEq]
    rfl
  rw [m__law_written_e]
  unfold f__law_written f__law_written_L1
  simp only [evs, List.drop_zero, List.drop_succ_cons, Option.map_some, Option.map_none, List.getElem?_cons_zero, List.getElem?_cons_succ, List.set_cons_zero, List.set_cons_succ, List.map_cons, List.map_nil, List.length_cons, List.length_nil, List.take_succ_cons, List.take_zero, if_true, if_false, eq_self, List.contains_cons, List.contains_nil, List.reverse_cons, List.reverse_nil, List.nil_append, List.cons_append, List.append_nil, List.lookup_cons, reduceCtorEq, ↓reduceIte, Nat.reduceAdd, Nat.reduceSub, Nat.reduceBEq, String.reduceBEq, String.reduceEq, Nat.reduceLeDiff, Nat.reduceLT, Int.reduceLT, Int.reduceLE, Int.reduceEq, Int.reduceToNat, Int.reducePow, Int.reduceAdd, Int.reduceSub, Int.reduceMul, Int.reduceNeg, Nat.reducePow, Int.reduceMod, Int.reduceDiv, Nat.reduceEqDiff]
  rw [lc]
  simp only [evs, List.drop_zero, List.drop_succ_cons, Option.map_some, Option.map_none, List.getElem?_cons_zero, List.getElem?_cons_succ, List.set_cons_zero, List.set_cons_succ, List.map_cons, List.map_nil, List.length_cons, List.length_nil, List.take_succ_cons, List.take_zero, if_true, if_false, eq_self, List.contains_cons, List.contains_nil, List.reverse_cons, List.reverse_nil, List.nil_append, List.cons_append, List.append_nil, List.lookup_cons, reduceCtorEq, ↓reduceIte, Nat.reduceAdd, Nat.reduceSub, Nat.reduceBEq, String.reduceBEq, String.reduceEq, Nat.reduceLeDiff, Nat.reduceLT, Int.reduceLT, Int.reduceLE, Int.reduceEq, Int.reduceToNat, Int.reducePow, Int.reduceAdd, Int.reduceSub, Int.reduceMul, Int.reduceNeg, Nat.reducePow, Int.reduceMod, Int.reduceDiv, Nat.reduceEqDiff, strsP_map, bl_len, zs]
  rfl
/-! ### a word -/
def tag (s : Str) : Option Str := if s = Str.ofString "+" then some sLay else if s = Str.ofString "~" then some sCut else if s = Str.ofString "#" then some sDike else none
def itemW (w : Str) : Option Itm := match tag (cutS w none (some 1)) with
  | some k => if isName (.str (cutS w (some 1) none)) = true then some (k, cutS w (some 1) none) else none
  | none => none
def itemP : Option Itm → P
  | some i => encI i
  | none => .non
theorem itemW_ok {w : Str} {i : Itm} (h : itemW w = some i) : IOk i := by
  unfold itemW at h
  split at h
  · rename_i k hk
    split at h
    · rename_i hn
      cases h
      refine ⟨?_, hn⟩
      unfold tag at hk
      split at hk
      · cases hk; exact .inl rfl
      · split at hk
        · cases hk; exact .inr (.inl rfl)
        · split at hk
          · cases hk; exact .inr (.inr rfl)
          · cases hk
    · cases h
  · cases h
theorem strOk_asc {z : Str} (h : ascS z) (n : Nat) : fine n (.str z) = true := ascS_fine h
theorem cut_asc {z : Str} {a b : Option Int} (h : ascS z) : ascS (cutS z a b) := fun c m => h c (mem_cutS m)
theorem tame_str {z : Str} (h : ascS z) (hl : z.length ≤ 1000) : tame (.str z) := by
  simp only [tame]
  exact ⟨hl, h⟩
theorem item_in_eq {w : Str} (h : ascS w) (hl : w.length ≤ 1000) (S : Store) : m_item_in [.p (.str w)] S = .ok (.p (itemP (itemW w))) S := by
  have hw : w.length ≤ 16777216 := by omega
  have ca := cut_asc (a := none) (b := some 1) h
  have cb := cut_asc (a := some 1) (b := none) h
  have nm := is_name_eq (tame_str cb (by have := cutS_length w (some 1) none; omega)) S
  rw [m_item_in_e]
  unfold f_item_in f_item_in_L1 f_item_in_L2
  have lc : ∀ r0 : Rho, r0 = [some (.p (.str w)), none, none, none] → lcF (.tp [2, 3]) f_item_in_T1 f_item_in_E1 r0 (tabD tab_SIGNS) 0 S = .ok ((tab_SIGNS.filter fun q => decide (cutS w none (some 1) = q.2)).map fun q => P.str q.1) S := by
    intro r0 e
    subst e
    refine lcF_pureM (F := fun q : Str × Str => D.p (.tup [.str q.1, .str q.2])) (fun q => decide (cutS w none (some 1) = q.2)) (fun q => P.str q.1) (fun q m => ?_) (by rw [sz]; decide)
    have hq : fine 64 (.str q.2) = true := by
      have : ∀ q ∈ tab_SIGNS, fine 64 (.str q.2) = true := by decide +kernel
      exact this q m
    have eqq := eq_P (neg := false) (S := S) (strOk_asc ca 64) hq
    simp only [peq, Bool.false_eq_true, if_false] at eqq
    refine ⟨_, rfl, ?_, fun _ => ?_⟩
    · unfold f_item_in_T1
      simp only [evs, List.drop_zero, List.drop_succ_cons, Option.map_some, Option.map_none, List.getElem?_cons_zero, List.getElem?_cons_succ, List.set_cons_zero, List.set_cons_succ, List.map_cons, List.map_nil, List.length_cons, List.length_nil, List.take_succ_cons, List.take_zero, if_true, if_false, eq_self, List.contains_cons, List.contains_nil, List.reverse_cons, List.reverse_nil, List.nil_append, List.cons_append, List.append_nil, List.lookup_cons, reduceCtorEq, ↓reduceIte, Nat.reduceAdd, Nat.reduceSub, Nat.reduceBEq, String.reduceBEq, String.reduceEq, Nat.reduceLeDiff, Nat.reduceLT, Int.reduceLT, Int.reduceLE, Int.reduceEq, Int.reduceToNat, Int.reducePow, Int.reduceAdd, Int.reduceSub, Int.reduceMul, Int.reduceNeg, Nat.reducePow, Int.reduceMod, Int.reduceDiv, Nat.reduceEqDiff, hw, eqq]
    · unfold f_item_in_E1
      simp only [evs, List.drop_zero, List.drop_succ_cons, Option.map_some, Option.map_none, List.getElem?_cons_zero, List.getElem?_cons_succ, List.set_cons_zero, List.set_cons_succ, List.map_cons, List.map_nil, List.length_cons, List.length_nil, List.take_succ_cons, List.take_zero, if_true, if_false, eq_self, List.contains_cons, List.contains_nil, List.reverse_cons, List.reverse_nil, List.nil_append, List.cons_append, List.append_nil, List.lookup_cons, reduceCtorEq, ↓reduceIte, Nat.reduceAdd, Nat.reduceSub, Nat.reduceBEq, String.reduceBEq, String.reduceEq, Nat.reduceLeDiff, Nat.reduceLT, Int.reduceLT, Int.reduceLE, Int.reduceEq, Int.reduceToNat, Int.reducePow, Int.reduceAdd, Int.reduceSub, Int.reduceMul, Int.reduceNeg, Nat.reducePow, Int.reduceMod, Int.reduceDiv, Nat.reduceEqDiff]
  generalize e1 : cutS w none (some 1) = x at lc ca
  generalize e2 : cutS w (some 1) none = y at nm cb
  have hi : itemW w = match tag x with
    | some k => if isName (.str y) = true then some (k, y) else none
    | none => none := by
    unfold itemW
    rw [e1, e2]
  have nn : ∀ xs : List Str, (∀ k ∈ xs, k ∈ [sLay, sCut, sDike]) → ∀ S, dEqv true (.p (.lst (xs.map P.str))) (.p (.lst [])) S = .ok (.p (.bl (!xs.isEmpty))) S := fun xs hx S => by
    rw [ne_nil]
    · cases xs <;> rfl
    · clear e1 lc hi
      induction xs with
      | nil => rfl
      | cons k xs ih =>
        simp only [List.map_cons, fines, Bool.and_eq_true]
        refine ⟨?_, ih fun j m => hx j (List.mem_cons_of_mem _ m)⟩
        have : ∀ k ∈ [sLay, sCut, sDike], fine 63 (.str k) = true := by decide +kernel
        exact this k (hx k (List.mem_cons_self ..))
  rw [hi]
  have three : tag x = none ∧ tab_SIGNS.filter (fun q => decide (x = q.2)) = [] ∨ ∃ k, tag x = some k ∧ k ∈ [sLay, sCut, sDike] ∧ (tab_SIGNS.filter fun q => decide (x = q.2)) = [(k, x)] := by
    unfold tag
    by_cases c1 : x = Str.ofString "+"
    · refine .inr ⟨sLay, if_pos c1, by decide, ?_⟩
      subst c1
      decide +kernel
    by_cases c2 : x = Str.ofString "~"
    · refine .inr ⟨sCut, by rw [if_neg c1, if_pos c2], by decide, ?_⟩
      subst c2
      decide +kernel
    by_cases c3 : x = Str.ofString "#"
    · refine .inr ⟨sDike, by rw [if_neg c1, if_neg c2, if_pos c3], by decide, ?_⟩
      subst c3
      decide +kernel
    refine .inl ⟨by rw [if_neg c1, if_neg c2, if_neg c3], ?_⟩
    simp [tab_SIGNS, c1, c2, c3]
  rcases three with ⟨t1, t2⟩ | ⟨k, t1, t2, t3⟩
  · have n0 : dEqv true (.p (.lst [])) (.p (.lst [])) S = .ok (.p (.bl false)) S := nn [] (fun _ m => nomatch m) S
    rw [t2] at lc
    rw [t1]
    simp only [evs, List.drop_zero, List.drop_succ_cons, Option.map_some, Option.map_none, List.getElem?_cons_zero, List.getElem?_cons_succ, List.set_cons_zero, List.set_cons_succ, List.map_cons, List.map_nil, List.length_cons, List.length_nil, List.take_succ_cons, List.take_zero, if_true, if_false, eq_self, List.contains_cons, List.contains_nil, List.reverse_cons, List.reverse_nil, List.nil_append, List.cons_append, List.append_nil, List.lookup_cons, reduceCtorEq, ↓reduceIte, Nat.reduceAdd, Nat.reduceSub, Nat.reduceBEq, String.reduceBEq, String.reduceEq, Nat.reduceLeDiff, Nat.reduceLT, Int.reduceLT, Int.reduceLE, Int.reduceEq, Int.reduceToNat, Int.reducePow, Int.reduceAdd, Int.reduceSub, Int.reduceMul, Int.reduceNeg, Nat.reducePow, Int.reduceMod, Int.reduceDiv, Nat.reduceEqDiff]
    rw [lc _ rfl]
    simp only [evs, List.drop_zero, List.drop_succ_cons, Option.map_some, Option.map_none, List.getElem?_cons_zero, List.getElem?_cons_succ, List.set_cons_zero, List.set_cons_succ, List.map_cons, List.map_nil, List.length_cons, List.length_nil, List.take_succ_cons, List.take_zero, if_true, if_false, eq_self, List.contains_cons, List.contains_nil, List.reverse_cons, List.reverse_nil, List.nil_append, List.cons_append, List.append_nil, List.lookup_cons, reduceCtorEq, ↓reduceIte, Nat.reduceAdd, Nat.reduceSub, Nat.reduceBEq, String.reduceBEq, String.reduceEq, Nat.reduceLeDiff, Nat.reduceLT, Int.reduceLT, Int.reduceLE, Int.reduceEq, Int.reduceToNat, Int.reducePow, Int.reduceAdd, Int.reduceSub, Int.reduceMul, Int.reduceNeg, Nat.reducePow, Int.reduceMod, Int.reduceDiv, Nat.reduceEqDiff, n0]
    rfl
  · have n1 : dEqv true (.p (.lst [P.str k])) (.p (.lst [])) S = .ok (.p (.bl true)) S := nn [k] (fun j m => by rw [List.mem_singleton.mp m]; exact t2) S
    rw [t3] at lc
    rw [t1]
    simp only [evs, List.drop_zero, List.drop_succ_cons, Option.map_some, Option.map_none, List.getElem?_cons_zero, List.getElem?_cons_succ, List.set_cons_zero, List.set_cons_succ, List.map_cons, List.map_nil, List.length_cons, List.length_nil, List.take_succ_cons, List.take_zero, if_true, if_false, eq_self, List.contains_cons, List.contains_nil, List.reverse_cons, List.reverse_nil, List.nil_append, List.cons_append, List.append_nil, List.lookup_cons, reduceCtorEq, ↓reduceIte, Nat.reduceAdd, Nat.reduceSub, Nat.reduceBEq, String.reduceBEq, String.reduceEq, Nat.reduceLeDiff, Nat.reduceLT, Int.reduceLT, Int.reduceLE, Int.reduceEq, Int.reduceToNat, Int.reducePow, Int.reduceAdd, Int.reduceSub, Int.reduceMul, Int.reduceNeg, Nat.reducePow, Int.reduceMod, Int.reduceDiv, Nat.reduceEqDiff]
    rw [lc _ rfl]
    simp only [evs, List.drop_zero, List.drop_succ_cons, Option.map_some, Option.map_none, List.getElem?_cons_zero, List.getElem?_cons_succ, List.set_cons_zero, List.set_cons_succ, List.map_cons, List.map_nil, List.length_cons, List.length_nil, List.take_succ_cons, List.take_zero, if_true, if_false, eq_self, List.contains_cons, List.contains_nil, List.reverse_cons, List.reverse_nil, List.nil_append, List.cons_append, List.append_nil, List.lookup_cons, reduceCtorEq, ↓reduceIte, Nat.reduceAdd, Nat.reduceSub, Nat.reduceBEq, String.reduceBEq, String.reduceEq, Nat.reduceLeDiff, Nat.reduceLT, Int.reduceLT, Int.reduceLE, Int.reduceEq, Int.reduceToNat, Int.reducePow, Int.reduceAdd, Int.reduceSub, Int.reduceMul, Int.reduceNeg, Nat.reducePow, Int.reduceMod, Int.reduceDiv, Nat.reduceEqDiff, n1, hw, e2, nm]
    cases hn : isName (.str y) with
    | true =>
      simp only [evs, List.drop_zero, List.drop_succ_cons, Option.map_some, Option.map_none, List.getElem?_cons_zero, List.getElem?_cons_succ, List.set_cons_zero, List.set_cons_succ, List.map_cons, List.map_nil, List.length_cons, List.length_nil, List.take_succ_cons, List.take_zero, if_true, if_false, eq_self, List.contains_cons, List.contains_nil, List.reverse_cons, List.reverse_nil, List.nil_append, List.cons_append, List.append_nil, List.lookup_cons, reduceCtorEq, ↓reduceIte, Nat.reduceAdd, Nat.reduceSub, Nat.reduceBEq, String.reduceBEq, String.reduceEq, Nat.reduceLeDiff, Nat.reduceLT, Int.reduceLT, Int.reduceLE, Int.reduceEq, Int.reduceToNat, Int.reducePow, Int.reduceAdd, Int.reduceSub, Int.reduceMul, Int.reduceNeg, Nat.reducePow, Int.reduceMod, Int.reduceDiv, Nat.reduceEqDiff, hw, e2]
      rfl
    | false =>
      simp only [evs, List.drop_zero, List.drop_succ_cons, Option.map_some, Option.map_none, List.getElem?_cons_zero, List.getElem?_cons_succ, List.set_cons_zero, List.set_cons_succ, List.map_cons, List.map_nil, List.length_cons, List.length_nil, List.take_succ_cons, List.take_zero, if_true, if_false, eq_self, List.contains_cons, List.contains_nil, List.reverse_cons, List.reverse_nil, List.nil_append, List.cons_append, List.append_nil, List.lookup_cons, reduceCtorEq, ↓reduceIte, Nat.reduceAdd, Nat.reduceSub, Nat.reduceBEq, String.reduceBEq, String.reduceEq, Nat.reduceLeDiff, Nat.reduceLT, Int.reduceLT, Int.reduceLE, Int.reduceEq, Int.reduceToNat, Int.reducePow, Int.reduceAdd, Int.reduceSub, Int.reduceMul, Int.reduceNeg, Nat.reducePow, Int.reduceMod, Int.reduceDiv, Nat.reduceEqDiff]
      rfl
theorem no_odd : ∀ cs : List Nat, ((cs.filter fun c => !decide (c ∈ abc.cps.toList)).map fun c => P.str ⟨#[c]⟩).isEmpty = cs.all fun c => decide (c ∈ abc.cps.toList)
  | [] => rfl
  | c :: cs => by
    by_cases hc : c ∈ abc.cps.toList
    · rw [List.filter_cons_of_neg (by simp [hc]), no_odd cs, List.all_cons, decide_eq_true hc, Bool.true_and]
    · rw [List.filter_cons_of_pos (by simp only [hc, decide_false, Bool.not_false]), List.all_cons, decide_eq_false hc, Bool.false_and]
      rfl
theorem law_name_eq {z : Str} (h : ascS z) (hl : z.length ≤ 1000) (S : Store) : m__law_is_name [.p (.str z)] S = .ok (.p (.bl (isName (.str z)))) S := by
  rw [m__law_is_name_e]
  unfold f__law_is_name f__law_is_name_L1
  have hz : z.length ≤ 16777216 := by omega
  have e1 : decide (1 ≤ z.length) = decide ((0 : Int) < (z.length : Int)) := decide_eq_decide.mpr (by omega)
  have e2 : decide (z.length ≤ 8) = decide ((z.length : Int) < 9) := decide_eq_decide.mpr (by omega)
  simp only [evs, List.drop_zero, List.drop_succ_cons, Option.map_some, Option.map_none, List.getElem?_cons_zero, List.getElem?_cons_succ, List.set_cons_zero, List.set_cons_succ, List.map_cons, List.map_nil, List.length_cons, List.length_nil, List.take_succ_cons, List.take_zero, if_true, if_false, eq_self, List.contains_cons, List.contains_nil, List.reverse_cons, List.reverse_nil, List.nil_append, List.cons_append, List.append_nil, List.lookup_cons, reduceCtorEq, ↓reduceIte, Nat.reduceAdd, Nat.reduceSub, Nat.reduceBEq, String.reduceBEq, String.reduceEq, Nat.reduceLeDiff, Nat.reduceLT, Int.reduceLT, Int.reduceLE, Int.reduceEq, Int.reduceToNat, Int.reducePow, Int.reduceAdd, Int.reduceSub, Int.reduceMul, Int.reduceNeg, Nat.reducePow, Int.reduceMod, Int.reduceDiv, Nat.reduceEqDiff, hz, isName, e1, e2]
  cases a1 : decide ((0 : Int) < (z.length : Int)) with
  | false => simp only [evs, List.drop_zero, List.drop_succ_cons, Option.map_some, Option.map_none, List.getElem?_cons_zero, List.getElem?_cons_succ, List.set_cons_zero, List.set_cons_succ, List.map_cons, List.map_nil, List.length_cons, List.length_nil, List.take_succ_cons, List.take_zero, if_true, if_false, eq_self, List.contains_cons, List.contains_nil, List.reverse_cons, List.reverse_nil, List.nil_append, List.cons_append, List.append_nil, List.lookup_cons, reduceCtorEq, ↓reduceIte, Nat.reduceAdd, Nat.reduceSub, Nat.reduceBEq, String.reduceBEq, String.reduceEq, Nat.reduceLeDiff, Nat.reduceLT, Int.reduceLT, Int.reduceLE, Int.reduceEq, Int.reduceToNat, Int.reducePow, Int.reduceAdd, Int.reduceSub, Int.reduceMul, Int.reduceNeg, Nat.reducePow, Int.reduceMod, Int.reduceDiv, Nat.reduceEqDiff]
  | true =>
    cases a2 : decide ((z.length : Int) < 9) with
    | false => simp only [evs, List.drop_zero, List.drop_succ_cons, Option.map_some, Option.map_none, List.getElem?_cons_zero, List.getElem?_cons_succ, List.set_cons_zero, List.set_cons_succ, List.map_cons, List.map_nil, List.length_cons, List.length_nil, List.take_succ_cons, List.take_zero, if_true, if_false, eq_self, List.contains_cons, List.contains_nil, List.reverse_cons, List.reverse_nil, List.nil_append, List.cons_append, List.append_nil, List.lookup_cons, reduceCtorEq, ↓reduceIte, Nat.reduceAdd, Nat.reduceSub, Nat.reduceBEq, String.reduceBEq, String.reduceEq, Nat.reduceLeDiff, Nat.reduceLT, Int.reduceLT, Int.reduceLE, Int.reduceEq, Int.reduceToNat, Int.reducePow, Int.reduceAdd, Int.reduceSub, Int.reduceMul, Int.reduceNeg, Nat.reducePow, Int.reduceMod, Int.reduceDiv, Nat.reduceEqDiff, a2]
    | true =>
      simp only [evs, List.drop_zero, List.drop_succ_cons, Option.map_some, Option.map_none, List.getElem?_cons_zero, List.getElem?_cons_succ, List.set_cons_zero, List.set_cons_succ, List.map_cons, List.map_nil, List.length_cons, List.length_nil, List.take_succ_cons, List.take_zero, if_true, if_false, eq_self, List.contains_cons, List.contains_nil, List.reverse_cons, List.reverse_nil, List.nil_append, List.cons_append, List.append_nil, List.lookup_cons, reduceCtorEq, ↓reduceIte, Nat.reduceAdd, Nat.reduceSub, Nat.reduceBEq, String.reduceBEq, String.reduceEq, Nat.reduceLeDiff, Nat.reduceLT, Int.reduceLT, Int.reduceLE, Int.reduceEq, Int.reduceToNat, Int.reducePow, Int.reduceAdd, Int.reduceSub, Int.reduceMul, Int.reduceNeg, Nat.reducePow, Int.reduceMod, Int.reduceDiv, Nat.reduceEqDiff, a2]
      rw [lcF_pureM (fun c => !decide (c ∈ abc.cps.toList)) (fun c => P.str ⟨#[c]⟩) (fun c m => ⟨_, rfl, by unfold f__law_is_name_T1; simp only [evs, List.drop_zero, List.drop_succ_cons, Option.map_some, Option.map_none, List.getElem?_cons_zero, List.getElem?_cons_succ, List.set_cons_zero, List.set_cons_succ, List.map_cons, List.map_nil, List.length_cons, List.length_nil, List.take_succ_cons, List.take_zero, if_true, if_false, eq_self, List.contains_cons, List.contains_nil, List.reverse_cons, List.reverse_nil, List.nil_append, List.cons_append, List.append_nil, List.lookup_cons, reduceCtorEq, ↓reduceIte, Nat.reduceAdd, Nat.reduceSub, Nat.reduceBEq, String.reduceBEq, String.reduceEq, Nat.reduceLeDiff, Nat.reduceLT, Int.reduceLT, Int.reduceLE, Int.reduceEq, Int.reduceToNat, Int.reducePow, Int.reduceAdd, Int.reduceSub, Int.reduceMul, Int.reduceNeg, Nat.reducePow, Int.reduceMod, Int.reduceDiv, Nat.reduceEqDiff], fun _ => by unfold f__law_is_name_E1; simp only [evs, List.drop_zero, List.drop_succ_cons, Option.map_some, Option.map_none, List.getElem?_cons_zero, List.getElem?_cons_succ, List.set_cons_zero, List.set_cons_succ, List.map_cons, List.map_nil, List.length_cons, List.length_nil, List.take_succ_cons, List.take_zero, if_true, if_false, eq_self, List.contains_cons, List.contains_nil, List.reverse_cons, List.reverse_nil, List.nil_append, List.cons_append, List.append_nil, List.lookup_cons, reduceCtorEq, ↓reduceIte, Nat.reduceAdd, Nat.reduceSub, Nat.reduceBEq, String.reduceBEq, String.reduceEq, Nat.reduceLeDiff, Nat.reduceLT, Int.reduceLT, Int.reduceLE, Int.reduceEq, Int.reduceToNat, Int.reducePow, Int.reduceAdd, Int.reduceSub, Int.reduceMul, Int.reduceNeg, Nat.reducePow, Int.reduceMod, Int.reduceDiv, Nat.reduceEqDiff]⟩) (by simp [sz]; exact Nat.le_trans hl (by decide))]
      simp only [evs, List.drop_zero, List.drop_succ_cons, Option.map_some, Option.map_none, List.getElem?_cons_zero, List.getElem?_cons_succ, List.set_cons_zero, List.set_cons_succ, List.map_cons, List.map_nil, List.length_cons, List.length_nil, List.take_succ_cons, List.take_zero, if_true, if_false, eq_self, List.contains_cons, List.contains_nil, List.reverse_cons, List.reverse_nil, List.nil_append, List.cons_append, List.append_nil, List.lookup_cons, reduceCtorEq, ↓reduceIte, Nat.reduceAdd, Nat.reduceSub, Nat.reduceBEq, String.reduceBEq, String.reduceEq, Nat.reduceLeDiff, Nat.reduceLT, Int.reduceLT, Int.reduceLE, Int.reduceEq, Int.reduceToNat, Int.reducePow, Int.reduceAdd, Int.reduceSub, Int.reduceMul, Int.reduceNeg, Nat.reducePow, Int.reduceMod, Int.reduceDiv, Nat.reduceEqDiff]
      rw [eq_nil]
      · simp only [evs, List.drop_zero, List.drop_succ_cons, Option.map_some, Option.map_none, List.getElem?_cons_zero, List.getElem?_cons_succ, List.set_cons_zero, List.set_cons_succ, List.map_cons, List.map_nil, List.length_cons, List.length_nil, List.take_succ_cons, List.take_zero, if_true, if_false, eq_self, List.contains_cons, List.contains_nil, List.reverse_cons, List.reverse_nil, List.nil_append, List.cons_append, List.append_nil, List.lookup_cons, reduceCtorEq, ↓reduceIte, Nat.reduceAdd, Nat.reduceSub, Nat.reduceBEq, String.reduceBEq, String.reduceEq, Nat.reduceLeDiff, Nat.reduceLT, Int.reduceLT, Int.reduceLE, Int.reduceEq, Int.reduceToNat, Int.reducePow, Int.reduceAdd, Int.reduceSub, Int.reduceMul, Int.reduceNeg, Nat.reducePow, Int.reduceMod, Int.reduceDiv, Nat.reduceEqDiff]
        rw [no_odd]
      · have hc : ∀ c ∈ z.cps.toList.filter (fun c => !decide (c ∈ abc.cps.toList)), c < 128 := fun c m => h c (List.mem_filter.mp m).1
        generalize z.cps.toList.filter (fun c => !decide (c ∈ abc.cps.toList)) = cs at hc
        induction cs with
        | nil => rfl
        | cons c cs ih =>
          simp only [List.map_cons, fines, Bool.and_eq_true]
          exact ⟨strOk_asc (fun d m => by
            have e : d = c := by simpa using m
            rw [e]; exact hc c (List.mem_cons_self ..)) 63, ih fun d m => hc d (List.mem_cons_of_mem _ m)⟩
/-! ### x in a list of items -/
theorem any_peq {a : P} {e : PyData} {m : Nat} (ha : fine m a = true) (he : pd a = some e) : ∀ {xs : List P} {es : List PyData} {n : Nat}, fines n xs = true → pds xs = some es → (es.any fun z => PyData.eqv z e) = xs.any fun z => peq z a
  | [], es, n, _, h => by
    simp only [pds, Option.some.injEq] at h
    subst h
    rfl
  | x :: xs, es, n, h1, h => by
    simp only [fines, Bool.and_eq_true] at h1
    obtain ⟨e1, g1, g2, g3⟩ := fine_pd h1.1
    obtain ⟨e2, k1, _, _⟩ := fines_pd h1.2
    have : pds (x :: xs) = some (e1 :: e2) := by simp [pds, g1, k1]
    rw [this] at h
    cases h
    rw [List.any_cons, List.any_cons, eqv_peq h1.1 ha g1 he, any_peq ha he h1.2 k1]
theorem in_cell {a : P} {xs : List P} {S : Store} {n : Nat} (hs : S[n]? = some (.lst xs)) (ha : fine 64 a = true) (hx : fines 63 xs = true) : dInD false (.p a) (.cell n) S = .ok (.p (.bl (xs.any fun z => peq z a))) S := by
  obtain ⟨e, h1, h2, h3⟩ := fine_pd ha
  obtain ⟨f, g1, g2, g3⟩ := fine_pd (a := .lst xs) (n := 64) (by simpa only [fine] using hx)
  obtain ⟨es, k1, _, _⟩ := fines_pd hx
  have ef : f = .list es := by
    simp only [pd, k1, Option.map_some, Option.some.injEq] at g1
    exact g1.symm
  subst ef
  unfold dInD
  have p1 : pdD S (.p a) = some e := h1
  have p2 : pdD S (.cell n) = some (.list es) := by simp only [pdD, hs, k1, Option.map_some]
  rw [p1, p2]
  have s1 : SeqAt.shaped e = true := by simp [SeqAt.shaped, h2, h3]
  have s2 : SeqAt.shaped (.list es) = true := by simp [SeqAt.shaped, g2, g3]
  simp only [s1, s2, Bool.and_self, chk_true, Bool.false_eq_true, if_false, any_peq ha h1 hx k1]
theorem eq_cell {a : P} {xs : List P} {S : Store} {n : Nat} {neg : Bool} (hs : S[n]? = some (.lst xs)) : dEqv neg (.cell n) (.p a) S = dEqv neg (.p (.lst xs)) (.p a) S := by
  have p2 : pdD S (.cell n) = pdD S (.p (.lst xs)) := by simp only [pdD, hs, pd]
  unfold dEqv
  rw [p2]
theorem IOk.asc {i : Itm} (h : IOk i) : ascS i.1 ∧ ascS i.2 := by
  refine ⟨?_, (name_chars h.n).2.2⟩
  have : ∀ k ∈ [sLay, sCut, sDike], ∀ c ∈ k.cps.toList, c < 128 := by decide +kernel
  exact this i.1 (by simpa using h.k)
theorem IOk.fine {i : Itm} (h : IOk i) (n : Nat) : fine (n + 1) (encI i) = true := by
  simp only [encI, RB.F.fine, fines, Bool.and_eq_true]
  exact ⟨strOk_asc h.asc.1 n, strOk_asc h.asc.2 n, trivial⟩
theorem items_fine {n : Nat} : ∀ {os : List Itm}, (∀ i ∈ os, IOk i) → fines (n + 1) (os.map encI) = true
  | [], _ => rfl
  | i :: os, h => by
    simp only [List.map_cons, fines, Bool.and_eq_true]
    exact ⟨(h i (List.mem_cons_self ..)).fine n, items_fine fun j m => h j (List.mem_cons_of_mem _ m)⟩
theorem peq_item (i j : Itm) : peq (encI j) (encI i) = decide (j = i) := by
  obtain ⟨a, b⟩ := i
  obtain ⟨c, d⟩ := j
  simp only [encI, peq, peqs, Bool.and_true]
  rw [← Bool.decide_and]
  exact decide_eq_decide.mpr (by simp)
def inI (i : Itm) (fs : List Itm) : Bool := fs.any fun j => decide (j = i)
theorem inI_P (i : Itm) (fs : List Itm) : ((fs.map encI).any fun z => peq z (encI i)) = inI i fs := by
  rw [List.any_map]
  unfold inI
  congr 1
  funext j
  exact peq_item i j
/-! ### words read -/
def rdW : List Str → Nat → List Itm → Nat ⊕ List Itm
  | [], _, fs => .inr fs
  | w :: ws, k, fs => match itemW w with
    | some i => if inI i fs = true then .inl k else rdW ws (k + 1) (fs ++ [i])
    | none => .inl k
def wordsOf (z : Str) : List Str := if z = Str.ofString "" then [] else Txt.split z sBl
def enF (n : Nat) : List P → List D
  | [] => []
  | x :: r => .p (.tup [.int (n : Nat), x]) :: enF (n + 1) r
theorem enF_e : ∀ (xs : List P) (n : Nat), ((List.range' n xs.length).zip xs).map (fun q => D.p (.tup [.int ((q.1 : Nat) : Int), q.2])) = enF n xs
  | [], n => rfl
  | x :: r, n => by
    rw [List.length_cons, List.range'_succ, List.zip_cons_cons, List.map_cons, enF_e r (n + 1)]
    rfl
theorem enumP_e (xs : List P) : enumP xs = enF 0 xs := by
  rw [← enF_e, ← List.range_eq_range']
  rfl
def perr (j : Nat) : Exc := ⟨"ParseError", [Str.ofString "word", Str.ofString "line"], [.int j, .int 0]⟩
abbrev WOk (w : Str) : Prop := ascS w ∧ w.length ≤ 1000
theorem read_loop {S : Store} {z : D} : ∀ (ws : List Str) (k : Nat) (fs : List Itm) (x2 x3 x4 : Option D), (∀ w ∈ ws, WOk w) → (∀ i ∈ fs, IOk i) → fs.length + ws.length ≤ 10000 →
    (∀ j, rdW ws k fs = .inl j → ∃ r T, forF (.tp [2, 3]) f_read_order_B4 (enF k (ws.map P.str)) [some (z), some (.cell S.length), x2, x3, x4] (S ++ [.lst (fs.map encI)]) = .ex r (perr j) (S ++ [T])) ∧
    (∀ gs, rdW ws k fs = .inr gs → (∀ i ∈ gs, IOk i) ∧ ∃ y2 y3 y4, forF (.tp [2, 3]) f_read_order_B4 (enF k (ws.map P.str)) [some (z), some (.cell S.length), x2, x3, x4] (S ++ [.lst (fs.map encI)]) = .nx [some (z), some (.cell S.length), y2, y3, y4] (S ++ [.lst (gs.map encI)]))
  | [], k, fs, x2, x3, x4, _, hf, _ => ⟨fun j e => (nomatch e), fun gs e => by cases e; exact ⟨hf, x2, x3, x4, rfl⟩⟩
  | w :: ws, k, fs, x2, x3, x4, hw, hf, hl => by
    have hl : fs.length + (ws.length + 1) ≤ 10000 := hl
    have ww := hw w (List.mem_cons_self ..)
    have it := item_in_eq ww.1 ww.2 (S ++ [.lst (fs.map encI)])
    have sg : (S ++ [Cell.lst (fs.map encI)])[S.length]? = some (.lst (fs.map encI)) := by simp
    have hL5 : f_read_order_L5 [some (z), some (.cell S.length), some (.p (.int (k : Nat))), some (.p (.str w)), x4] (S ++ [.lst (fs.map encI)]) = .nx [some (z), some (.cell S.length), some (.p (.int (k : Nat))), some (.p (.str w)), some (.p (itemP (itemW w)))] (S ++ [.lst (fs.map encI)]) := by
      unfold f_read_order_L5
      simp only [evs, List.drop_zero, List.drop_succ_cons, Option.map_some, Option.map_none, List.getElem?_cons_zero, List.getElem?_cons_succ, List.set_cons_zero, List.set_cons_succ, List.map_cons, List.map_nil, List.length_cons, List.length_nil, List.take_succ_cons, List.take_zero, if_true, if_false, eq_self, List.contains_cons, List.contains_nil, List.reverse_cons, List.reverse_nil, List.nil_append, List.cons_append, List.append_nil, List.lookup_cons, reduceCtorEq, ↓reduceIte, Nat.reduceAdd, Nat.reduceSub, Nat.reduceBEq, String.reduceBEq, String.reduceEq, Nat.reduceLeDiff, Nat.reduceLT, Int.reduceLT, Int.reduceLE, Int.reduceEq, Int.reduceToNat, Int.reducePow, Int.reduceAdd, Int.reduceSub, Int.reduceMul, Int.reduceNeg, Nat.reducePow, Int.reduceMod, Int.reduceDiv, Nat.reduceEqDiff, it]
    have step : ∀ o, f_read_order_B4 [some (z), some (.cell S.length), some (.p (.int (k : Nat))), some (.p (.str w)), x4] (S ++ [.lst (fs.map encI)]) = o → forF (.tp [2, 3]) f_read_order_B4 (enF k ((w :: ws).map P.str)) [some (z), some (.cell S.length), x2, x3, x4] (S ++ [.lst (fs.map encI)]) = o.more fun r2 S2 => forF (.tp [2, 3]) f_read_order_B4 (enF (k + 1) (ws.map P.str)) r2 S2 := by
      intro o e
      rw [List.map_cons]
      show forF (.tp [2, 3]) f_read_order_B4 (.p (.tup [.int (k : Nat), .str w]) :: enF (k + 1) (ws.map P.str)) _ _ = _
      rw [← e]
      rfl
    cases hi : itemW w with
    | none =>
      rw [hi] at hL5
      have hB : f_read_order_B4 [some (z), some (.cell S.length), some (.p (.int (k : Nat))), some (.p (.str w)), x4] (S ++ [.lst (fs.map encI)]) = .ex [some (z), some (.cell S.length), some (.p (.int (k : Nat))), some (.p (.str w)), some (.p .non)] (perr k) (S ++ [.lst (fs.map encI)]) := by
        unfold f_read_order_B4
        rw [wSeq, hL5, seq_nx]
        unfold f_read_order_L6 f_read_order_L7
        simp only [evs, List.drop_zero, List.drop_succ_cons, Option.map_some, Option.map_none, List.getElem?_cons_zero, List.getElem?_cons_succ, List.set_cons_zero, List.set_cons_succ, List.map_cons, List.map_nil, List.length_cons, List.length_nil, List.take_succ_cons, List.take_zero, if_true, if_false, eq_self, List.contains_cons, List.contains_nil, List.reverse_cons, List.reverse_nil, List.nil_append, List.cons_append, List.append_nil, List.lookup_cons, reduceCtorEq, ↓reduceIte, Nat.reduceAdd, Nat.reduceSub, Nat.reduceBEq, String.reduceBEq, String.reduceEq, Nat.reduceLeDiff, Nat.reduceLT, Int.reduceLT, Int.reduceLE, Int.reduceEq, Int.reduceToNat, Int.reducePow, Int.reduceAdd, Int.reduceSub, Int.reduceMul, Int.reduceNeg, Nat.reducePow, Int.reduceMod, Int.reduceDiv, Nat.reduceEqDiff, itemP]
        rfl
      have e0 : rdW (w :: ws) k fs = .inl k := by simp only [rdW, hi]
      rw [e0]
      refine ⟨fun j e => ?_, fun gs e => (nomatch e)⟩
      cases e
      exact ⟨_, _, (step _ hB).trans rfl⟩
    | some i =>
      rw [hi] at hL5
      have ok := itemW_ok hi
      have ii := in_cell (a := encI i) sg (ok.fine 63) (items_fine hf)
      rw [inI_P] at ii
      cases hb : inI i fs with
      | true =>
        have hB : f_read_order_B4 [some (z), some (.cell S.length), some (.p (.int (k : Nat))), some (.p (.str w)), x4] (S ++ [.lst (fs.map encI)]) = .ex [some (z), some (.cell S.length), some (.p (.int (k : Nat))), some (.p (.str w)), some (.p (encI i))] (perr k) (S ++ [.lst (fs.map encI)]) := by
          unfold f_read_order_B4
          rw [wSeq, hL5, seq_nx]
          rw [hb] at ii
          have ii : dInD false (.p (.tup [.str i.1, .str i.2])) (.cell S.length) (S ++ [.lst (fs.map encI)]) = _ := ii
          unfold f_read_order_L6 f_read_order_L7
          simp only [evs, List.drop_zero, List.drop_succ_cons, Option.map_some, Option.map_none, List.getElem?_cons_zero, List.getElem?_cons_succ, List.set_cons_zero, List.set_cons_succ, List.map_cons, List.map_nil, List.length_cons, List.length_nil, List.take_succ_cons, List.take_zero, if_true, if_false, eq_self, List.contains_cons, List.contains_nil, List.reverse_cons, List.reverse_nil, List.nil_append, List.cons_append, List.append_nil, List.lookup_cons, reduceCtorEq, ↓reduceIte, Nat.reduceAdd, Nat.reduceSub, Nat.reduceBEq, String.reduceBEq, String.reduceEq, Nat.reduceLeDiff, Nat.reduceLT, Int.reduceLT, Int.reduceLE, Int.reduceEq, Int.reduceToNat, Int.reducePow, Int.reduceAdd, Int.reduceSub, Int.reduceMul, Int.reduceNeg, Nat.reducePow, Int.reduceMod, Int.reduceDiv, Nat.reduceEqDiff, itemP, encI, ii]
          rfl
        have e0 : rdW (w :: ws) k fs = .inl k := by simp only [rdW, hi, hb, if_true]
        rw [e0]
        refine ⟨fun j e => ?_, fun gs e => (nomatch e)⟩
        cases e
        exact ⟨_, _, (step _ hB).trans rfl⟩
      | false =>
        have hB : f_read_order_B4 [some (z), some (.cell S.length), some (.p (.int (k : Nat))), some (.p (.str w)), x4] (S ++ [.lst (fs.map encI)]) = .nx [some (z), some (.cell S.length), some (.p (.int (k : Nat))), some (.p (.str w)), some (.p (encI i))] (S ++ [.lst ((fs ++ [i]).map encI)]) := by
          unfold f_read_order_B4
          rw [wSeq, hL5, seq_nx]
          rw [hb] at ii
          have ii : dInD false (.p (.tup [.str i.1, .str i.2])) (.cell S.length) (S ++ [.lst (fs.map encI)]) = _ := ii
          have hx : fs.length < 16777216 := by omega
          unfold f_read_order_L6 f_read_order_L7 f_read_order_L8
          simp only [evs, List.drop_zero, List.drop_succ_cons, Option.map_some, Option.map_none, List.getElem?_cons_zero, List.getElem?_cons_succ, List.set_cons_zero, List.set_cons_succ, List.map_cons, List.map_nil, List.length_cons, List.length_nil, List.take_succ_cons, List.take_zero, if_true, if_false, eq_self, List.contains_cons, List.contains_nil, List.reverse_cons, List.reverse_nil, List.nil_append, List.cons_append, List.append_nil, List.lookup_cons, reduceCtorEq, ↓reduceIte, Nat.reduceAdd, Nat.reduceSub, Nat.reduceBEq, String.reduceBEq, String.reduceEq, Nat.reduceLeDiff, Nat.reduceLT, Int.reduceLT, Int.reduceLE, Int.reduceEq, Int.reduceToNat, Int.reducePow, Int.reduceAdd, Int.reduceSub, Int.reduceMul, Int.reduceNeg, Nat.reducePow, Int.reduceMod, Int.reduceDiv, Nat.reduceEqDiff, itemP, encI, ii, hx, List.length_map]
          simp [encI]
        have e0 : rdW (w :: ws) k fs = rdW ws (k + 1) (fs ++ [i]) := by simp only [rdW, hi, hb, Bool.false_eq_true, if_false]
        rw [e0]
        obtain ⟨q1, q2⟩ := read_loop (S := S) (z := z) ws (k + 1) (fs ++ [i]) (some (.p (.int (k : Nat)))) (some (.p (.str w))) (some (.p (encI i))) (fun v m => hw v (List.mem_cons_of_mem _ m)) (fun j m => by
          rcases List.mem_append.mp m with m | m
          · exact hf j m
          · rw [List.mem_singleton.mp m]; exact ok) (by simp; omega)
        refine ⟨fun j e => ?_, fun gs e => ?_⟩
        · obtain ⟨r, T, g⟩ := q1 j e
          exact ⟨r, T, (step _ hB).trans g⟩
        · obtain ⟨g0, y2, y3, y4, g⟩ := q2 gs e
          exact ⟨g0, y2, y3, y4, (step _ hB).trans g⟩
/-! ### whole texts read -/
theorem mem_join {y : Str} : ∀ {ps : List Str} {p : Str} {c : Nat}, p ∈ ps → c ∈ p.cps.toList → c ∈ (Str.join y ps).cps.toList
  | [], _, _, m, _ => nomatch m
  | [x], p, c, m, h => by
    rw [List.mem_singleton.mp m] at h
    exact h
  | x :: z :: r, p, c, m, h => by
    show c ∈ (x ++ y ++ Str.join y (z :: r)).cps.toList
    rw [app_l, app_l, List.mem_append, List.mem_append]
    rcases List.mem_cons.mp m with rfl | m
    · exact .inl (.inl h)
    · exact .inr (mem_join m h)
theorem split_asc {x y p : Str} (h : ascS x) (m : p ∈ Txt.split x y) : ascS p := fun c hc => h c (by
  have := mem_join (y := y) m hc
  rwa [StrLaws.join_split] at this)
theorem words_ok {z : Str} (h : WOk z) : (∀ w ∈ wordsOf z, WOk w) ∧ (wordsOf z).length ≤ 1002 := by
  unfold wordsOf
  split
  · exact ⟨fun _ m => (nomatch m), by simp⟩
  · refine ⟨fun w m => ⟨split_asc h.1 m, ?_⟩, ?_⟩
    · have := PyProof.Rows.part_short m
      have := h.2
      omega
    · have := PyProof.Rows.split_le z sBl
      have := h.2
      omega
theorem eq_empty {z : Str} (h : ascS z) {neg : Bool} {S : Store} : dEqv neg (.p (.str z)) (.p (.str (Str.ofString ""))) S = .ok (.p (.bl (if neg then !decide (z = Str.ofString "") else decide (z = Str.ofString "")))) S := by
  rw [eq_P (strOk_asc h 64) (by decide +kernel)]
  simp only [peq]
theorem enum_words {z : Str} : enumP (wordsOf z |>.map P.str) = enF 0 ((wordsOf z).map P.str) := enumP_e _
theorem read_order_eq {z : Str} (h : WOk z) (S : Store) :
    (∀ j, rdW (wordsOf z) 0 [] = .inl j → m_read_order [.p (.str z)] S = .ex (perr j) S) ∧ (∀ gs, rdW (wordsOf z) 0 [] = .inr gs → (∀ i ∈ gs, IOk i) ∧ m_read_order [.p (.str z)] S = .ok (.cell S.length) (S ++ [.lst (gs.map encI)])) := by
  obtain ⟨w1, w2⟩ := words_ok h
  have hz : z.length + 2 ≤ 16777216 := by have := h.2; omega
  obtain ⟨q1, q2⟩ := read_loop (S := S) (z := .p (.str z)) (wordsOf z) 0 [] none none none w1 (fun _ m => nomatch m) (by simp; omega)
  have hL4 : f_read_order_L4 [some (.p (.str z)), some (.cell S.length), none, none, none] (S ++ [.lst []]) = forF (.tp [2, 3]) f_read_order_B4 (enF 0 ((wordsOf z).map P.str)) [some (.p (.str z)), some (.cell S.length), none, none, none] (S ++ [.lst []]) := by
    have ee := eq_empty h.1 (neg := true) (S := S ++ [.lst []])
    have b0 : (sBl.length == 0) = false := by decide +kernel
    unfold f_read_order_L4 wordsOf
    by_cases c : z = Str.ofString ""
    · have cd : decide (z = Str.ofString "") = true := decide_eq_true c
      rw [cd] at ee
      rw [if_pos c]
      simp only [evs, List.drop_zero, List.drop_succ_cons, Option.map_some, Option.map_none, List.getElem?_cons_zero, List.getElem?_cons_succ, List.set_cons_zero, List.set_cons_succ, List.map_cons, List.map_nil, List.length_cons, List.length_nil, List.take_succ_cons, List.take_zero, if_true, if_false, eq_self, List.contains_cons, List.contains_nil, List.reverse_cons, List.reverse_nil, List.nil_append, List.cons_append, List.append_nil, List.lookup_cons, reduceCtorEq, ↓reduceIte, Nat.reduceAdd, Nat.reduceSub, Nat.reduceBEq, String.reduceBEq, String.reduceEq, Nat.reduceLeDiff, Nat.reduceLT, Int.reduceLT, Int.reduceLE, Int.reduceEq, Int.reduceToNat, Int.reducePow, Int.reduceAdd, Int.reduceSub, Int.reduceMul, Int.reduceNeg, Nat.reducePow, Int.reduceMod, Int.reduceDiv, Nat.reduceEqDiff, ee, enumP_e]
    · have cd : decide (z = Str.ofString "") = false := decide_eq_false c
      rw [cd] at ee
      rw [if_neg c]
      simp only [evs, List.drop_zero, List.drop_succ_cons, Option.map_some, Option.map_none, List.getElem?_cons_zero, List.getElem?_cons_succ, List.set_cons_zero, List.set_cons_succ, List.map_cons, List.map_nil, List.length_cons, List.length_nil, List.take_succ_cons, List.take_zero, if_true, if_false, eq_self, List.contains_cons, List.contains_nil, List.reverse_cons, List.reverse_nil, List.nil_append, List.cons_append, List.append_nil, List.lookup_cons, reduceCtorEq, ↓reduceIte, Nat.reduceAdd, Nat.reduceSub, Nat.reduceBEq, String.reduceBEq, String.reduceEq, Nat.reduceLeDiff, Nat.reduceLT, Int.reduceLT, Int.reduceLE, Int.reduceEq, Int.reduceToNat, Int.reducePow, Int.reduceAdd, Int.reduceSub, Int.reduceMul, Int.reduceNeg, Nat.reducePow, Int.reduceMod, Int.reduceDiv, Nat.reduceEqDiff, ee, dSplit, b0, hz, enumP_e]
  rw [m_read_order_e]
  unfold f_read_order f_read_order_L1 f_read_order_L3 f_read_order_L9
  refine ⟨fun j e => ?_, fun gs e => ?_⟩
  · obtain ⟨r, T, g⟩ := q1 j e
    have g : forF (.tp [2, 3]) f_read_order_B4 (enF 0 ((wordsOf z).map P.str)) [some (.p (.str z)), some (.cell S.length), none, none, none] (S ++ [.lst []]) = _ := g
    rw [g] at hL4
    simp only [evs, List.drop_zero, List.drop_succ_cons, Option.map_some, Option.map_none, List.getElem?_cons_zero, List.getElem?_cons_succ, List.set_cons_zero, List.set_cons_succ, List.map_cons, List.map_nil, List.length_cons, List.length_nil, List.take_succ_cons, List.take_zero, if_true, if_false, eq_self, List.contains_cons, List.contains_nil, List.reverse_cons, List.reverse_nil, List.nil_append, List.cons_append, List.append_nil, List.lookup_cons, reduceCtorEq, ↓reduceIte, Nat.reduceAdd, Nat.reduceSub, Nat.reduceBEq, String.reduceBEq, String.reduceEq, Nat.reduceLeDiff, Nat.reduceLT, Int.reduceLT, Int.reduceLE, Int.reduceEq, Int.reduceToNat, Int.reducePow, Int.reduceAdd, Int.reduceSub, Int.reduceMul, Int.reduceNeg, Nat.reducePow, Int.reduceMod, Int.reduceDiv, Nat.reduceEqDiff, hL4]
  · obtain ⟨g0, y2, y3, y4, g⟩ := q2 gs e
    have g : forF (.tp [2, 3]) f_read_order_B4 (enF 0 ((wordsOf z).map P.str)) [some (.p (.str z)), some (.cell S.length), none, none, none] (S ++ [.lst []]) = _ := g
    rw [g] at hL4
    refine ⟨g0, ?_⟩
    simp only [evs, List.drop_zero, List.drop_succ_cons, Option.map_some, Option.map_none, List.getElem?_cons_zero, List.getElem?_cons_succ, List.set_cons_zero, List.set_cons_succ, List.map_cons, List.map_nil, List.length_cons, List.length_nil, List.take_succ_cons, List.take_zero, if_true, if_false, eq_self, List.contains_cons, List.contains_nil, List.reverse_cons, List.reverse_nil, List.nil_append, List.cons_append, List.append_nil, List.lookup_cons, reduceCtorEq, ↓reduceIte, Nat.reduceAdd, Nat.reduceSub, Nat.reduceBEq, String.reduceBEq, String.reduceEq, Nat.reduceLeDiff, Nat.reduceLT, Int.reduceLT, Int.reduceLE, Int.reduceEq, Int.reduceToNat, Int.reducePow, Int.reduceAdd, Int.reduceSub, Int.reduceMul, Int.reduceNeg, Nat.reducePow, Int.reduceMod, Int.reduceDiv, Nat.reduceEqDiff, hL4]
    simp [cutD]
theorem told_eq {z : Str} (h : WOk z) (S : Store) :
    (∀ j, rdW (wordsOf z) 0 [] = .inl j → m__law_told [.p (.str z)] S = .ok (.p (.tup [.int 0, .int j, .bl true])) S) ∧ (∀ gs, rdW (wordsOf z) 0 [] = .inr gs → (∀ i ∈ gs, IOk i) ∧ m__law_told [.p (.str z)] S = .ok (.cell S.length) (S ++ [.lst (gs.map encI)])) := by
  obtain ⟨q1, q2⟩ := read_order_eq h S
  rw [m__law_told_e]
  unfold f__law_told f__law_told_L1 f__law_told_L2 f__law_told_L4
  refine ⟨fun j e => ?_, fun gs e => ?_⟩
  · have g := q1 j e
    simp only [evs, evo, List.drop_zero, List.drop_succ_cons, Option.map_some, Option.map_none, List.getElem?_cons_zero, List.getElem?_cons_succ, List.set_cons_zero, List.set_cons_succ, List.map_cons, List.map_nil, List.length_cons, List.length_nil, List.take_succ_cons, List.take_zero, if_true, if_false, eq_self, List.contains_cons, List.contains_nil, List.reverse_cons, List.reverse_nil, List.nil_append, List.cons_append, List.append_nil, List.lookup_cons, reduceCtorEq, ↓reduceIte, Nat.reduceAdd, Nat.reduceSub, Nat.reduceBEq, String.reduceBEq, String.reduceEq, Nat.reduceLeDiff, Nat.reduceLT, Int.reduceLT, Int.reduceLE, Int.reduceEq, Int.reduceToNat, Int.reducePow, Int.reduceAdd, Int.reduceSub, Int.reduceMul, Int.reduceNeg, Nat.reducePow, Int.reduceMod, Int.reduceDiv, Nat.reduceEqDiff, g, perr, exm_ParseError, kinds, is_ValueError]
  · obtain ⟨g0, g⟩ := q2 gs e
    refine ⟨g0, ?_⟩
    simp only [evs, List.drop_zero, List.drop_succ_cons, Option.map_some, Option.map_none, List.getElem?_cons_zero, List.getElem?_cons_succ, List.set_cons_zero, List.set_cons_succ, List.map_cons, List.map_nil, List.length_cons, List.length_nil, List.take_succ_cons, List.take_zero, if_true, if_false, eq_self, List.contains_cons, List.contains_nil, List.reverse_cons, List.reverse_nil, List.nil_append, List.cons_append, List.append_nil, List.lookup_cons, reduceCtorEq, ↓reduceIte, Nat.reduceAdd, Nat.reduceSub, Nat.reduceBEq, String.reduceBEq, String.reduceEq, Nat.reduceLeDiff, Nat.reduceLT, Int.reduceLT, Int.reduceLE, Int.reduceEq, Int.reduceToNat, Int.reducePow, Int.reduceAdd, Int.reduceSub, Int.reduceMul, Int.reduceNeg, Nat.reducePow, Int.reduceMod, Int.reduceDiv, Nat.reduceEqDiff, g]
    simp [cutD]
/-- no text -/
theorem told_no {v : P} (h : v ∈ [P.non, .int 0, .bl true, .lst [.str (Str.ofString "+a")], .tup [.str (Str.ofString "+a")], .dK [] [], .lst []]) (S : Store) : m__law_told [.p v] S = .ok (.p (.tup [.int 0, .int 0, .bl true])) S := by
  have g : m_read_order [.p v] S = .ex (perr 0) S := by
    rw [m_read_order_e]
    unfold f_read_order f_read_order_L1 f_read_order_L2
    simp only [List.mem_cons, List.not_mem_nil, or_false] at h
    rcases h with rfl | rfl | rfl | rfl | rfl | rfl | rfl <;> (simp only [evs, List.drop_zero, List.drop_succ_cons, Option.map_some, Option.map_none, List.getElem?_cons_zero, List.getElem?_cons_succ, List.set_cons_zero, List.set_cons_succ, List.map_cons, List.map_nil, List.length_cons, List.length_nil, List.take_succ_cons, List.take_zero, if_true, if_false, eq_self, List.contains_cons, List.contains_nil, List.reverse_cons, List.reverse_nil, List.nil_append, List.cons_append, List.append_nil, List.lookup_cons, reduceCtorEq, ↓reduceIte, Nat.reduceAdd, Nat.reduceSub, Nat.reduceBEq, String.reduceBEq, String.reduceEq, Nat.reduceLeDiff, Nat.reduceLT, Int.reduceLT, Int.reduceLE, Int.reduceEq, Int.reduceToNat, Int.reducePow, Int.reduceAdd, Int.reduceSub, Int.reduceMul, Int.reduceNeg, Nat.reducePow, Int.reduceMod, Int.reduceDiv, Nat.reduceEqDiff]; rfl)
  rw [m__law_told_e]
  unfold f__law_told f__law_told_L1 f__law_told_L2 f__law_told_L4
  simp only [evs, evo, List.drop_zero, List.drop_succ_cons, Option.map_some, Option.map_none, List.getElem?_cons_zero, List.getElem?_cons_succ, List.set_cons_zero, List.set_cons_succ, List.map_cons, List.map_nil, List.length_cons, List.length_nil, List.take_succ_cons, List.take_zero, if_true, if_false, eq_self, List.contains_cons, List.contains_nil, List.reverse_cons, List.reverse_nil, List.nil_append, List.cons_append, List.append_nil, List.lookup_cons, reduceCtorEq, ↓reduceIte, Nat.reduceAdd, Nat.reduceSub, Nat.reduceBEq, String.reduceBEq, String.reduceEq, Nat.reduceLeDiff, Nat.reduceLT, Int.reduceLT, Int.reduceLE, Int.reduceEq, Int.reduceToNat, Int.reducePow, Int.reduceAdd, Int.reduceSub, Int.reduceMul, Int.reduceNeg, Nat.reducePow, Int.reduceMod, Int.reduceDiv, Nat.reduceEqDiff, g, perr, exm_ParseError, kinds, is_ValueError]
  rfl
/-! ### the law's own reading -/
def dueP : Nat ⊕ List Itm → P
  | .inl j => .int j
  | .inr gs => .lst (gs.map encI)
def tagP : Option Str → P
  | some k => .str k
  | none => .non
theorem get_tag {s : Str} (S : Store) : dGet2 (.p (.dK [.inr (Str.ofString "+"), .inr (Str.ofString "~"), .inr (Str.ofString "#")] [.str sLay, .str sCut, .str sDike])) (.p (.str s)) (.p .non) S = .ok (.p (tagP (tag s))) S := by
  unfold tag
  by_cases c1 : s = Str.ofString "+"
  · subst c1
    simp only [dGet2, keyOf, klook, if_true, tagP]
  by_cases c2 : s = Str.ofString "~"
  · subst c2
    simp only [dGet2, keyOf, klook, Sum.inr.injEq, of_inj, String.reduceEq, if_false, if_true, tagP]
  by_cases c3 : s = Str.ofString "#"
  · subst c3
    simp only [dGet2, keyOf, klook, Sum.inr.injEq, of_inj, String.reduceEq, if_false, if_true, tagP]
  have d1 : ¬ (Str.ofString "+" = s) := fun e => c1 e.symm
  have d2 : ¬ (Str.ofString "~" = s) := fun e => c2 e.symm
  have d3 : ¬ (Str.ofString "#" = s) := fun e => c3 e.symm
  simp only [dGet2, keyOf, klook, Sum.inr.injEq, c1, c2, c3, d1, d2, d3, if_false, tagP]
theorem due_loop {S : Store} {z : D} : ∀ (ws : List Str) (k : Nat) (fs : List Itm) (x2 x3 x4 : Option D), (∀ w ∈ ws, WOk w) → (∀ i ∈ fs, IOk i) → fs.length + ws.length ≤ 10000 →
    (∀ j, rdW ws k fs = .inl j → ∃ T, forF (.tp [2, 3]) f__law_order_in_B2 (enF k (ws.map P.str)) [some (z), some (.cell S.length), x2, x3, x4] (S ++ [.lst (fs.map encI)]) = .rt (.p (.int (j : Nat))) (S ++ [T])) ∧
    (∀ gs, rdW ws k fs = .inr gs → ∃ y2 y3 y4, forF (.tp [2, 3]) f__law_order_in_B2 (enF k (ws.map P.str)) [some (z), some (.cell S.length), x2, x3, x4] (S ++ [.lst (fs.map encI)]) = .nx [some (z), some (.cell S.length), y2, y3, y4] (S ++ [.lst (gs.map encI)]))
  | [], k, fs, x2, x3, x4, _, hf, _ => ⟨fun j e => (nomatch e), fun gs e => by cases e; exact ⟨x2, x3, x4, rfl⟩⟩
  | w :: ws, k, fs, x2, x3, x4, hw, hf, hl => by
    have hl : fs.length + (ws.length + 1) ≤ 10000 := hl
    have ww := hw w (List.mem_cons_self ..)
    have hwl : w.length ≤ 16777216 := by have := ww.2; omega
    have gt := get_tag (s := cutS w none (some 1)) (S ++ [.lst (fs.map encI)])
    have nm := law_name_eq (cut_asc (a := some 1) (b := none) ww.1) (by have := cutS_length w (some 1) none; have := ww.2; omega) (S ++ [.lst (fs.map encI)])
    have sg : (S ++ [Cell.lst (fs.map encI)])[S.length]? = some (.lst (fs.map encI)) := by simp
    have hL3 : f__law_order_in_L3 [some (z), some (.cell S.length), some (.p (.int (k : Nat))), some (.p (.str w)), x4] (S ++ [.lst (fs.map encI)]) = .nx [some (z), some (.cell S.length), some (.p (.int (k : Nat))), some (.p (.str w)), some (.p (tagP (tag (cutS w none (some 1)))))] (S ++ [.lst (fs.map encI)]) := by
      unfold f__law_order_in_L3
      simp only [evs, List.drop_zero, List.drop_succ_cons, Option.map_some, Option.map_none, List.getElem?_cons_zero, List.getElem?_cons_succ, List.set_cons_zero, List.set_cons_succ, List.map_cons, List.map_nil, List.length_cons, List.length_nil, List.take_succ_cons, List.take_zero, if_true, if_false, eq_self, List.contains_cons, List.contains_nil, List.reverse_cons, List.reverse_nil, List.nil_append, List.cons_append, List.append_nil, List.lookup_cons, reduceCtorEq, ↓reduceIte, Nat.reduceAdd, Nat.reduceSub, Nat.reduceBEq, String.reduceBEq, String.reduceEq, Nat.reduceLeDiff, Nat.reduceLT, Int.reduceLT, Int.reduceLE, Int.reduceEq, Int.reduceToNat, Int.reducePow, Int.reduceAdd, Int.reduceSub, Int.reduceMul, Int.reduceNeg, Nat.reducePow, Int.reduceMod, Int.reduceDiv, Nat.reduceEqDiff, hwl, gt, nodupB, List.any_cons, List.any_nil, Sum.inr.injEq]
    have step : ∀ o, f__law_order_in_B2 [some (z), some (.cell S.length), some (.p (.int (k : Nat))), some (.p (.str w)), x4] (S ++ [.lst (fs.map encI)]) = o → forF (.tp [2, 3]) f__law_order_in_B2 (enF k ((w :: ws).map P.str)) [some (z), some (.cell S.length), x2, x3, x4] (S ++ [.lst (fs.map encI)]) = o.more fun r2 S2 => forF (.tp [2, 3]) f__law_order_in_B2 (enF (k + 1) (ws.map P.str)) r2 S2 := by
      intro o e
      rw [List.map_cons]
      show forF (.tp [2, 3]) f__law_order_in_B2 (.p (.tup [.int (k : Nat), .str w]) :: enF (k + 1) (ws.map P.str)) _ _ = _
      rw [← e]
      rfl
    have bad : itemW w = none → f__law_order_in_B2 [some (z), some (.cell S.length), some (.p (.int (k : Nat))), some (.p (.str w)), x4] (S ++ [.lst (fs.map encI)]) = .rt (.p (.int (k : Nat))) (S ++ [.lst (fs.map encI)]) := by
      intro hi
      unfold f__law_order_in_B2
      rw [wSeq, hL3, seq_nx]
      unfold f__law_order_in_L4 f__law_order_in_L5
      unfold itemW at hi
      cases ht : tag (cutS w none (some 1)) with
      | none => simp only [evs, List.drop_zero, List.drop_succ_cons, Option.map_some, Option.map_none, List.getElem?_cons_zero, List.getElem?_cons_succ, List.set_cons_zero, List.set_cons_succ, List.map_cons, List.map_nil, List.length_cons, List.length_nil, List.take_succ_cons, List.take_zero, if_true, if_false, eq_self, List.contains_cons, List.contains_nil, List.reverse_cons, List.reverse_nil, List.nil_append, List.cons_append, List.append_nil, List.lookup_cons, reduceCtorEq, ↓reduceIte, Nat.reduceAdd, Nat.reduceSub, Nat.reduceBEq, String.reduceBEq, String.reduceEq, Nat.reduceLeDiff, Nat.reduceLT, Int.reduceLT, Int.reduceLE, Int.reduceEq, Int.reduceToNat, Int.reducePow, Int.reduceAdd, Int.reduceSub, Int.reduceMul, Int.reduceNeg, Nat.reducePow, Int.reduceMod, Int.reduceDiv, Nat.reduceEqDiff, tagP]
      | some t =>
        rw [ht] at hi
        dsimp only at hi
        cases hn : isName (.str (cutS w (some 1) none)) with
        | true => rw [hn] at hi; simp at hi
        | false =>
          rw [hn] at nm
          simp only [evs, List.drop_zero, List.drop_succ_cons, Option.map_some, Option.map_none, List.getElem?_cons_zero, List.getElem?_cons_succ, List.set_cons_zero, List.set_cons_succ, List.map_cons, List.map_nil, List.length_cons, List.length_nil, List.take_succ_cons, List.take_zero, if_true, if_false, eq_self, List.contains_cons, List.contains_nil, List.reverse_cons, List.reverse_nil, List.nil_append, List.cons_append, List.append_nil, List.lookup_cons, reduceCtorEq, ↓reduceIte, Nat.reduceAdd, Nat.reduceSub, Nat.reduceBEq, String.reduceBEq, String.reduceEq, Nat.reduceLeDiff, Nat.reduceLT, Int.reduceLT, Int.reduceLE, Int.reduceEq, Int.reduceToNat, Int.reducePow, Int.reduceAdd, Int.reduceSub, Int.reduceMul, Int.reduceNeg, Nat.reducePow, Int.reduceMod, Int.reduceDiv, Nat.reduceEqDiff, hwl, nm, tagP]
    cases hi : itemW w with
    | none =>
      have e0 : rdW (w :: ws) k fs = .inl k := by simp only [rdW, hi]
      rw [e0]
      refine ⟨fun j e => ?_, fun gs e => (nomatch e)⟩
      cases e
      exact ⟨_, (step _ (bad hi)).trans rfl⟩
    | some i =>
      have ok := itemW_ok hi
      have ii := in_cell (a := encI i) sg (ok.fine 63) (items_fine hf)
      rw [inI_P] at ii
      have ii : dInD false (.p (.tup [.str i.1, .str i.2])) (.cell S.length) (S ++ [.lst (fs.map encI)]) = _ := ii
      have parts : tag (cutS w none (some 1)) = some i.1 ∧ isName (.str (cutS w (some 1) none)) = true ∧ cutS w (some 1) none = i.2 := by
        unfold itemW at hi
        split at hi
        · rename_i t ht
          split at hi
          · rename_i hn
            cases hi
            exact ⟨ht, hn, rfl⟩
          · cases hi
        · cases hi
      obtain ⟨p1, p2, p3⟩ := parts
      rw [p1] at hL3
      simp only [tagP] at hL3
      rw [p2, p3] at nm
      cases hb : inI i fs with
      | true =>
        rw [hb] at ii
        have hB : f__law_order_in_B2 [some (z), some (.cell S.length), some (.p (.int (k : Nat))), some (.p (.str w)), x4] (S ++ [.lst (fs.map encI)]) = .rt (.p (.int (k : Nat))) (S ++ [.lst (fs.map encI)]) := by
          unfold f__law_order_in_B2
          rw [wSeq, hL3, seq_nx]
          unfold f__law_order_in_L4 f__law_order_in_L5
          simp only [evs, List.drop_zero, List.drop_succ_cons, Option.map_some, Option.map_none, List.getElem?_cons_zero, List.getElem?_cons_succ, List.set_cons_zero, List.set_cons_succ, List.map_cons, List.map_nil, List.length_cons, List.length_nil, List.take_succ_cons, List.take_zero, if_true, if_false, eq_self, List.contains_cons, List.contains_nil, List.reverse_cons, List.reverse_nil, List.nil_append, List.cons_append, List.append_nil, List.lookup_cons, reduceCtorEq, ↓reduceIte, Nat.reduceAdd, Nat.reduceSub, Nat.reduceBEq, String.reduceBEq, String.reduceEq, Nat.reduceLeDiff, Nat.reduceLT, Int.reduceLT, Int.reduceLE, Int.reduceEq, Int.reduceToNat, Int.reducePow, Int.reduceAdd, Int.reduceSub, Int.reduceMul, Int.reduceNeg, Nat.reducePow, Int.reduceMod, Int.reduceDiv, Nat.reduceEqDiff, hwl, p3, nm, ii]
        have e0 : rdW (w :: ws) k fs = .inl k := by simp only [rdW, hi, hb, if_true]
        rw [e0]
        refine ⟨fun j e => ?_, fun gs e => (nomatch e)⟩
        cases e
        exact ⟨_, (step _ hB).trans rfl⟩
      | false =>
        rw [hb] at ii
        have hx : fs.length < 16777216 := by omega
        have hB : f__law_order_in_B2 [some (z), some (.cell S.length), some (.p (.int (k : Nat))), some (.p (.str w)), x4] (S ++ [.lst (fs.map encI)]) = .nx [some (z), some (.cell S.length), some (.p (.int (k : Nat))), some (.p (.str w)), some (.p (.str i.1))] (S ++ [.lst ((fs ++ [i]).map encI)]) := by
          unfold f__law_order_in_B2
          rw [wSeq, hL3, seq_nx]
          unfold f__law_order_in_L4 f__law_order_in_L5 f__law_order_in_L6
          simp only [evs, List.drop_zero, List.drop_succ_cons, Option.map_some, Option.map_none, List.getElem?_cons_zero, List.getElem?_cons_succ, List.set_cons_zero, List.set_cons_succ, List.map_cons, List.map_nil, List.length_cons, List.length_nil, List.take_succ_cons, List.take_zero, if_true, if_false, eq_self, List.contains_cons, List.contains_nil, List.reverse_cons, List.reverse_nil, List.nil_append, List.cons_append, List.append_nil, List.lookup_cons, reduceCtorEq, ↓reduceIte, Nat.reduceAdd, Nat.reduceSub, Nat.reduceBEq, String.reduceBEq, String.reduceEq, Nat.reduceLeDiff, Nat.reduceLT, Int.reduceLT, Int.reduceLE, Int.reduceEq, Int.reduceToNat, Int.reducePow, Int.reduceAdd, Int.reduceSub, Int.reduceMul, Int.reduceNeg, Nat.reducePow, Int.reduceMod, Int.reduceDiv, Nat.reduceEqDiff, hwl, p3, nm, ii, hx, List.length_map]
          simp [encI]
        have e0 : rdW (w :: ws) k fs = rdW ws (k + 1) (fs ++ [i]) := by simp only [rdW, hi, hb, Bool.false_eq_true, if_false]
        rw [e0]
        obtain ⟨q1, q2⟩ := due_loop (S := S) (z := z) ws (k + 1) (fs ++ [i]) (some (.p (.int (k : Nat)))) (some (.p (.str w))) (some (.p (.str i.1))) (fun v m => hw v (List.mem_cons_of_mem _ m)) (fun j m => by
          rcases List.mem_append.mp m with m | m
          · exact hf j m
          · rw [List.mem_singleton.mp m]; exact ok) (by simp; omega)
        refine ⟨fun j e => ?_, fun gs e => ?_⟩
        · obtain ⟨T, g⟩ := q1 j e
          exact ⟨T, (step _ hB).trans g⟩
        · obtain ⟨y2, y3, y4, g⟩ := q2 gs e
          exact ⟨y2, y3, y4, (step _ hB).trans g⟩
theorem order_in_eq {z : Str} (h : WOk z) (S : Store) : m__law_order_in [.p (.str z)] S = .ok (.p (dueP (rdW (wordsOf z) 0 []))) S := by
  obtain ⟨w1, w2⟩ := words_ok h
  have hz : z.length + 2 ≤ 16777216 := by have := h.2; omega
  obtain ⟨q1, q2⟩ := due_loop (S := S) (z := .p (.str z)) (wordsOf z) 0 [] none none none w1 (fun _ m => nomatch m) (by simp; omega)
  have hL2 : f__law_order_in_L2 [some (.p (.str z)), some (.cell S.length), none, none, none] (S ++ [.lst []]) = forF (.tp [2, 3]) f__law_order_in_B2 (enF 0 ((wordsOf z).map P.str)) [some (.p (.str z)), some (.cell S.length), none, none, none] (S ++ [.lst []]) := by
    have ee := eq_empty h.1 (neg := false) (S := S ++ [.lst []])
    have b0 : (sBl.length == 0) = false := by decide +kernel
    unfold f__law_order_in_L2 wordsOf
    by_cases c : z = Str.ofString ""
    · have cd : decide (z = Str.ofString "") = true := decide_eq_true c
      rw [cd] at ee
      rw [if_pos c]
      simp only [evs, List.drop_zero, List.drop_succ_cons, Option.map_some, Option.map_none, List.getElem?_cons_zero, List.getElem?_cons_succ, List.set_cons_zero, List.set_cons_succ, List.map_cons, List.map_nil, List.length_cons, List.length_nil, List.take_succ_cons, List.take_zero, if_true, if_false, eq_self, List.contains_cons, List.contains_nil, List.reverse_cons, List.reverse_nil, List.nil_append, List.cons_append, List.append_nil, List.lookup_cons, reduceCtorEq, ↓reduceIte, Nat.reduceAdd, Nat.reduceSub, Nat.reduceBEq, String.reduceBEq, String.reduceEq, Nat.reduceLeDiff, Nat.reduceLT, Int.reduceLT, Int.reduceLE, Int.reduceEq, Int.reduceToNat, Int.reducePow, Int.reduceAdd, Int.reduceSub, Int.reduceMul, Int.reduceNeg, Nat.reducePow, Int.reduceMod, Int.reduceDiv, Nat.reduceEqDiff, ee, enumP_e]
    · have cd : decide (z = Str.ofString "") = false := decide_eq_false c
      rw [cd] at ee
      rw [if_neg c]
      simp only [evs, List.drop_zero, List.drop_succ_cons, Option.map_some, Option.map_none, List.getElem?_cons_zero, List.getElem?_cons_succ, List.set_cons_zero, List.set_cons_succ, List.map_cons, List.map_nil, List.length_cons, List.length_nil, List.take_succ_cons, List.take_zero, if_true, if_false, eq_self, List.contains_cons, List.contains_nil, List.reverse_cons, List.reverse_nil, List.nil_append, List.cons_append, List.append_nil, List.lookup_cons, reduceCtorEq, ↓reduceIte, Nat.reduceAdd, Nat.reduceSub, Nat.reduceBEq, String.reduceBEq, String.reduceEq, Nat.reduceLeDiff, Nat.reduceLT, Int.reduceLT, Int.reduceLE, Int.reduceEq, Int.reduceToNat, Int.reducePow, Int.reduceAdd, Int.reduceSub, Int.reduceMul, Int.reduceNeg, Nat.reducePow, Int.reduceMod, Int.reduceDiv, Nat.reduceEqDiff, ee, dSplit, b0, hz, enumP_e]
  rw [m__law_order_in_e]
  unfold f__law_order_in f__law_order_in_L1 f__law_order_in_L7
  cases e : rdW (wordsOf z) 0 [] with
  | inl j =>
    obtain ⟨T, g⟩ := q1 j e
    have g : forF (.tp [2, 3]) f__law_order_in_B2 (enF 0 ((wordsOf z).map P.str)) [some (.p (.str z)), some (.cell S.length), none, none, none] (S ++ [.lst []]) = _ := g
    rw [g] at hL2
    simp only [evs, List.drop_zero, List.drop_succ_cons, Option.map_some, Option.map_none, List.getElem?_cons_zero, List.getElem?_cons_succ, List.set_cons_zero, List.set_cons_succ, List.map_cons, List.map_nil, List.length_cons, List.length_nil, List.take_succ_cons, List.take_zero, if_true, if_false, eq_self, List.contains_cons, List.contains_nil, List.reverse_cons, List.reverse_nil, List.nil_append, List.cons_append, List.append_nil, List.lookup_cons, reduceCtorEq, ↓reduceIte, Nat.reduceAdd, Nat.reduceSub, Nat.reduceBEq, String.reduceBEq, String.reduceEq, Nat.reduceLeDiff, Nat.reduceLT, Int.reduceLT, Int.reduceLE, Int.reduceEq, Int.reduceToNat, Int.reducePow, Int.reduceAdd, Int.reduceSub, Int.reduceMul, Int.reduceNeg, Nat.reducePow, Int.reduceMod, Int.reduceDiv, Nat.reduceEqDiff, hL2]
    rfl
  | inr gs =>
    obtain ⟨y2, y3, y4, g⟩ := q2 gs e
    have g : forF (.tp [2, 3]) f__law_order_in_B2 (enF 0 ((wordsOf z).map P.str)) [some (.p (.str z)), some (.cell S.length), none, none, none] (S ++ [.lst []]) = _ := g
    rw [g] at hL2
    simp only [evs, List.drop_zero, List.drop_succ_cons, Option.map_some, Option.map_none, List.getElem?_cons_zero, List.getElem?_cons_succ, List.set_cons_zero, List.set_cons_succ, List.map_cons, List.map_nil, List.length_cons, List.length_nil, List.take_succ_cons, List.take_zero, if_true, if_false, eq_self, List.contains_cons, List.contains_nil, List.reverse_cons, List.reverse_nil, List.nil_append, List.cons_append, List.append_nil, List.lookup_cons, reduceCtorEq, ↓reduceIte, Nat.reduceAdd, Nat.reduceSub, Nat.reduceBEq, String.reduceBEq, String.reduceEq, Nat.reduceLeDiff, Nat.reduceLT, Int.reduceLT, Int.reduceLE, Int.reduceEq, Int.reduceToNat, Int.reducePow, Int.reduceAdd, Int.reduceSub, Int.reduceMul, Int.reduceNeg, Nat.reducePow, Int.reduceMod, Int.reduceDiv, Nat.reduceEqDiff, hL2]
    rfl
/-! ### what was written is read -/
theorem tag_sgn {k : Str} (h : k = sLay ∨ k = sCut ∨ k = sDike) : tag (sgn k) = some k := by
  rcases h with rfl | rfl | rfl <;> decide +kernel
theorem cut1_app {a b : Str} (h : a.length = 1) : cutS (a ++ b) none (some 1) = a ∧ cutS (a ++ b) (some 1) none = b := by
  have ha : a.cps.toList.length = 1 := by rw [len_l]; exact h
  have hl := len_app a b
  have i1 : HT.sIx (a ++ b).length (a ++ b).length (some ((1 : Nat) : Int)) = min 1 (a ++ b).length := HT.sIx_nat ..
  have i2 : HT.sIx (a ++ b).length 0 (some ((1 : Nat) : Int)) = min 1 (a ++ b).length := HT.sIx_nat ..
  have m1 : min 1 (a ++ b).length = 1 := by omega
  constructor
  · apply Str.ext'
    apply Array.toList_inj.mp
    rw [cut_l, app_l, HT.sIx_none]
    show ((a.cps.toList ++ b.cps.toList).drop 0).take (HT.sIx (a ++ b).length (a ++ b).length (some ((1 : Nat) : Int)) - 0) = _
    rw [i1, m1, List.drop_zero, Nat.sub_zero, ← ha, List.take_left]
  · apply Str.ext'
    apply Array.toList_inj.mp
    rw [cut_l, app_l, HT.sIx_none]
    show ((a.cps.toList ++ b.cps.toList).drop (HT.sIx (a ++ b).length 0 (some ((1 : Nat) : Int)))).take ((a ++ b).length - HT.sIx (a ++ b).length 0 (some ((1 : Nat) : Int))) = _
    rw [i2, m1, ← ha, List.drop_left, List.take_of_length_le]
    rw [len_l, hl]
    omega
theorem itemW_word {i : Itm} (h : IOk i) : itemW (word i) = some i := by
  obtain ⟨c1, c2⟩ := cut1_app (a := sgn i.1) (b := i.2) (sgn_len _)
  unfold itemW word
  rw [c1, c2, tag_sgn h.k]
  simp only [h.n, if_true]
theorem rdW_words : ∀ {os : List Itm} {k : Nat} {fs : List Itm}, (∀ i ∈ os, IOk i) → (fs ++ os).Nodup → rdW (os.map word) k fs = .inr (fs ++ os)
  | [], k, fs, _, _ => by simp [rdW]
  | i :: os, k, fs, h, hd => by
    have hi := itemW_word (h i (List.mem_cons_self ..))
    have hn : inI i fs = false := by
      unfold inI
      rw [List.any_eq_false]
      intro j m
      have := (List.nodup_append.mp hd).2.2 j m i (List.mem_cons_self ..)
      simpa using this
    have ih := rdW_words (os := os) (k := k + 1) (fs := fs ++ [i]) (fun j m => h j (List.mem_cons_of_mem _ m)) (by simpa using hd)
    rw [List.map_cons]
    simp only [rdW, hi, hn, Bool.false_eq_true, if_false]
    rw [ih]
    simp
theorem word_nobl {i : Itm} (h : IOk i) : 32 ∉ (word i).cps.toList := by
  unfold word
  rw [app_l, List.mem_append]
  rintro (m | m)
  · have : ∀ k ∈ [sLay, sCut, sDike], 32 ∉ (sgn k).cps.toList := by decide +kernel
    exact this i.1 (by simpa using h.k) m
  · have hn := h.n
    simp only [isName, Bool.and_eq_true, decide_eq_true_eq, List.all_eq_true] at hn
    have := hn.2 32 m
    exact absurd this (by decide +kernel)
theorem form_ne {i : Itm} {os : List Itm} (h : IOk i) : form (i :: os) ≠ Str.ofString "" := fun e => by
  have hw := word_len h
  rw [← len_l] at hw
  cases hc : (word i).cps.toList with
  | nil => rw [hc] at hw; simp at hw
  | cons c r =>
    have m := mem_join (y := sBl) (ps := (i :: os).map word) (p := word i) (c := c) (List.mem_cons_self ..) (by rw [hc]; exact List.mem_cons_self ..)
    unfold form at e
    rw [← join_is, e] at m
    have z : (Str.ofString "").cps.toList = [] := by decide +kernel
    rw [z] at m
    cases m
theorem words_form {os : List Itm} (h : ∀ i ∈ os, IOk i) : wordsOf (form os) = os.map word := by
  cases os with
  | nil =>
    unfold wordsOf
    rw [if_pos (by decide +kernel)]
    rfl
  | cons i os =>
    unfold wordsOf
    rw [if_neg (form_ne (h i (List.mem_cons_self ..)))]
    unfold form
    refine TL.split_join (s := 32) (S := []) (by decide +kernel) (by decide +kernel) (by simp) fun p m => ?_
    obtain ⟨j, mj, rfl⟩ := List.mem_map.mp m
    exact word_nobl (h j mj)
theorem read_form {os : List Itm} (h : ∀ i ∈ os, IOk i) (hd : os.Nodup) : rdW (wordsOf (form os)) 0 [] = .inr os := by
  rw [words_form h, rdW_words h (by simpa using hd)]
  rfl
theorem word_asc {i : Itm} (h : IOk i) : ascS (word i) := by
  refine ascS_app ?_ h.asc.2
  have : ∀ k ∈ [sLay, sCut, sDike], ∀ c ∈ (sgn k).cps.toList, c < 128 := by decide +kernel
  exact this i.1 (by simpa using h.k)
theorem form_asc {os : List Itm} (h : ∀ i ∈ os, IOk i) : ascS (form os) := by
  unfold form
  rw [join_is]
  refine ascS_join (by unfold ascS; decide +kernel) fun y m => ?_
  obtain ⟨j, mj, rfl⟩ := List.mem_map.mp m
  exact word_asc (h j mj)
/-! ### a drawn order -/
structure Hid (zs : List Str) (m : Nat) (os : List Itm) : Prop where
  len : os.length = m
  ok : ∀ i ∈ os, IOk i
  nd : os.Nodup
  nm : ∀ i ∈ os, ∃ a < m, zs[a]? = some i.2
  last : ∀ a z, a + 1 = m → zs[a]? = some z → ∀ i ∈ os, ∀ j ∈ os, i.2 = z → j.2 = z → i = j
theorem nodup_at {zs : List Str} (h : zs.Nodup) {a b : Nat} {z : Str} (ha : zs[a]? = some z) (hb : zs[b]? = some z) : a = b := by
  obtain ⟨h1, e1⟩ := List.getElem?_eq_some_iff.mp ha
  obtain ⟨h2, e2⟩ := List.getElem?_eq_some_iff.mp hb
  rcases Nat.lt_trichotomy a b with c | c | c
  · exact absurd (e1.trans e2.symm) (List.pairwise_iff_getElem.mp h a b h1 h2 c)
  · exact c
  · exact absurd (e2.trans e1.symm) (List.pairwise_iff_getElem.mp h b a h2 h1 c)
theorem nodup_snoc {os : List Itm} {i : Itm} (h : os.Nodup) (hn : i ∉ os) : (os ++ [i]).Nodup := by
  rw [List.nodup_append]
  exact ⟨h, by simp, fun a ha b hb e => by rw [List.mem_singleton.mp hb] at e; rw [e] at ha; exact hn ha⟩
theorem Hid.plain {zs : List Str} {m : Nat} {os : List Itm} {t z : Str} (H : Hid zs m os) (hz : zs.Nodup) (ht : t = sLay ∨ t = sCut ∨ t = sDike) (hm : zs[m]? = some z) (hn : isName (.str z) = true) : Hid zs (m + 1) (os ++ [(t, z)]) := by
  have fresh : ∀ i ∈ os, i.2 ≠ z := fun i mi e => by
    obtain ⟨a, ha, q⟩ := H.nm i mi
    rw [e] at q
    have := nodup_at hz q hm
    omega
  refine ⟨by simp [H.len], fun i mi => ?_, nodup_snoc H.nd fun mi => fresh _ mi rfl, fun i mi => ?_, fun a z' ea hz' i mi j mj ei ej => ?_⟩
  · rcases List.mem_append.mp mi with mi | mi
    · exact H.ok i mi
    · rw [List.mem_singleton.mp mi]; exact ⟨ht, hn⟩
  · rcases List.mem_append.mp mi with mi | mi
    · obtain ⟨a, ha, q⟩ := H.nm i mi
      exact ⟨a, by omega, q⟩
    · rw [List.mem_singleton.mp mi]; exact ⟨m, by omega, hm⟩
  · have e : a = m := by omega
    subst e
    rw [hm] at hz'
    cases hz'
    have f : ∀ k ∈ os ++ [(t, z)], k.2 = z → k = (t, z) := fun k mk ek => by
      rcases List.mem_append.mp mk with mk | mk
      · exact absurd ek (fresh k mk)
      · exact List.mem_singleton.mp mk
    rw [f i mi ei, f j mj ej]
theorem Hid.swap {zs : List Str} {m : Nat} {os : List Itm} {z : Str} (H : Hid zs (m + 1) os) (hz : zs.Nodup) (hm : zs[m]? = some z) (hl : m + 1 < zs.length) (hi : (sLay, z) ∈ os) : Hid zs (m + 2) (os ++ [(sCut, z)]) := by
  have no : (sCut, z) ∉ os := fun mi => by
    have := H.last m z rfl hm _ hi _ mi rfl rfl
    have e : sLay = sCut := congrArg Prod.fst this
    exact absurd e (by decide +kernel)
  refine ⟨by simp [H.len], fun i mi => ?_, nodup_snoc H.nd no, fun i mi => ?_, fun a z' ea hz' i mi j mj ei ej => ?_⟩
  · rcases List.mem_append.mp mi with mi | mi
    · exact H.ok i mi
    · rw [List.mem_singleton.mp mi]; exact ⟨.inr (.inl rfl), (H.ok _ hi).n⟩
  · rcases List.mem_append.mp mi with mi | mi
    · obtain ⟨a, ha, q⟩ := H.nm i mi
      exact ⟨a, by omega, q⟩
    · rw [List.mem_singleton.mp mi]; exact ⟨m, by omega, hm⟩
  · have e : a = m + 1 := by omega
    subst e
    have : ∀ k ∈ os ++ [(sCut, z)], k.2 ≠ z' := fun k mk ek => by
      have q : ∃ a < m + 1, zs[a]? = some k.2 := by
        rcases List.mem_append.mp mk with mk | mk
        · exact H.nm k mk
        · rw [List.mem_singleton.mp mk]; exact ⟨m, by omega, hm⟩
      obtain ⟨a, ha, q⟩ := q
      rw [ek] at q
      have := nodup_at hz q hz'
      omega
    exact absurd ei (this i mi)
/-! ### _law_hidden -/
theorem atI_neg1 {xs : List P} {x : P} {n : Nat} (h : xs[n]? = some x) (hl : xs.length = n + 1) : atI xs (-1) = some x := by
  unfold atI ixN
  rw [if_neg (by omega), if_pos (by omega)]
  have : (-1 + (xs.length : Int)) = (n : Nat) := by omega
  rw [this]
  simpa using h
theorem hidden_turn {R : Store} {k m n : Nat} {c : Cell} {zs : List Str} {os : List Itm} {x5 : Option D} (hF : Fd (k + 2) c) (hz : zs.Nodup) (hn : ∀ z ∈ zs, isName (.str z) = true) (lz : zs.length = 24) (H : Hid zs m os) (hm : m < 13) :
    ∃ os' c' y5, f__law_hidden_B2 [some (.cell 0), some (.p (.int n)), some (.p (.int (0 + (m : Int)))), some (.p (.lst (zs.map P.str))), some (.cell (R.length + 1)), x5] (c :: (R ++ [.lst (os.map encI)])) = .nx [some (.cell 0), some (.p (.int n)), some (.p (.int (0 + (m : Int)))), some (.p (.lst (zs.map P.str))), some (.cell (R.length + 1)), y5] (c' :: (R ++ [.lst (os'.map encI)])) ∧ Fd k c' ∧ Hid zs (m + 1) os' := by
  obtain ⟨tv, c1, e1, F1, ht⟩ := pick_ok (xs := [.str sLay, .str sLay, .str sLay, .str sCut, .str sCut, .str sDike]) (by decide) (by decide) (k + 1) c (R ++ [.lst (os.map encI)]) hF
  obtain ⟨t, rfl, tk⟩ : ∃ t, tv = .str t ∧ (t = sLay ∨ t = sCut ∨ t = sDike) := by
    simp only [List.mem_cons, List.not_mem_nil, or_false] at ht
    rcases ht with rfl | rfl | rfl | rfl | rfl | rfl
    · exact ⟨_, rfl, .inl rfl⟩
    · exact ⟨_, rfl, .inl rfl⟩
    · exact ⟨_, rfl, .inl rfl⟩
    · exact ⟨_, rfl, .inr (.inl rfl)⟩
    · exact ⟨_, rfl, .inr (.inl rfl)⟩
    · exact ⟨_, rfl, .inr (.inr rfl)⟩
  obtain ⟨z, hzm⟩ : ∃ z, zs[m]? = some z := ⟨_, List.getElem?_eq_getElem (by omega)⟩
  have nz := hn z (List.mem_of_getElem? hzm)
  have Hp := H.plain hz tk hzm nz
  have ai : atI (zs.map P.str) (0 + (m : Int)) = some (.str z) := by
    rw [show (0 + (m : Int)) = (m : Int) by omega]
    exact atI_natP (by rw [List.getElem?_map, hzm]; rfl)
  have hx : os.length < 16777216 := by rw [H.len]; omega
  have hL3 : f__law_hidden_L3 [some (.cell 0), some (.p (.int n)), some (.p (.int (0 + (m : Int)))), some (.p (.lst (zs.map P.str))), some (.cell (R.length + 1)), x5] (c :: (R ++ [.lst (os.map encI)])) = .nx [some (.cell 0), some (.p (.int n)), some (.p (.int (0 + (m : Int)))), some (.p (.lst (zs.map P.str))), some (.cell (R.length + 1)), some (.p (.str t))] (c1 :: (R ++ [.lst (os.map encI)])) := by
    unfold f__law_hidden_L3
    simp only [evs, List.drop_zero, List.drop_succ_cons, Option.map_some, Option.map_none, List.getElem?_cons_zero, List.getElem?_cons_succ, List.set_cons_zero, List.set_cons_succ, List.map_cons, List.map_nil, List.length_cons, List.length_nil, List.take_succ_cons, List.take_zero, if_true, if_false, eq_self, List.contains_cons, List.contains_nil, List.reverse_cons, List.reverse_nil, List.nil_append, List.cons_append, List.append_nil, List.lookup_cons, reduceCtorEq, ↓reduceIte, Nat.reduceAdd, Nat.reduceSub, Nat.reduceBEq, String.reduceBEq, String.reduceEq, Nat.reduceLeDiff, Nat.reduceLT, Int.reduceLT, Int.reduceLE, Int.reduceEq, Int.reduceToNat, Int.reducePow, Int.reduceAdd, Int.reduceSub, Int.reduceMul, Int.reduceNeg, Nat.reducePow, Int.reduceMod, Int.reduceDiv, Nat.reduceEqDiff, e1]
  have hL4 : f__law_hidden_L4 [some (.cell 0), some (.p (.int n)), some (.p (.int (0 + (m : Int)))), some (.p (.lst (zs.map P.str))), some (.cell (R.length + 1)), some (.p (.str t))] (c1 :: (R ++ [.lst (os.map encI)])) = .nx [some (.cell 0), some (.p (.int n)), some (.p (.int (0 + (m : Int)))), some (.p (.lst (zs.map P.str))), some (.cell (R.length + 1)), some (.p (.str t))] (c1 :: (R ++ [.lst ((os ++ [(t, z)]).map encI)])) := by
    unfold f__law_hidden_L4
    simp only [evs, List.drop_zero, List.drop_succ_cons, Option.map_some, Option.map_none, List.getElem?_cons_zero, List.getElem?_cons_succ, List.set_cons_zero, List.set_cons_succ, List.map_cons, List.map_nil, List.length_cons, List.length_nil, List.take_succ_cons, List.take_zero, if_true, if_false, eq_self, List.contains_cons, List.contains_nil, List.reverse_cons, List.reverse_nil, List.nil_append, List.cons_append, List.append_nil, List.lookup_cons, reduceCtorEq, ↓reduceIte, Nat.reduceAdd, Nat.reduceSub, Nat.reduceBEq, String.reduceBEq, String.reduceEq, Nat.reduceLeDiff, Nat.reduceLT, Int.reduceLT, Int.reduceLE, Int.reduceEq, Int.reduceToNat, Int.reducePow, Int.reduceAdd, Int.reduceSub, Int.reduceMul, Int.reduceNeg, Nat.reducePow, Int.reduceMod, Int.reduceDiv, Nat.reduceEqDiff, ai, hx, List.length_map]
    simp [encI]
  unfold f__law_hidden_B2
  rw [wSeq, hL3, seq_nx, wSeq, hL4, seq_nx]
  have ek := eq_P (neg := false) (a := .str t) (b := .str sCut) (S := c1 :: (R ++ [.lst ((os ++ [(t, z)]).map encI)])) (by
    rcases tk with rfl | rfl | rfl <;> decide +kernel) (by decide +kernel)
  simp only [peq, Bool.false_eq_true, if_false] at ek
  unfold f__law_hidden_L5
  by_cases ct : t = sCut
  · have cd : decide (t = sCut) = true := decide_eq_true ct
    rw [cd] at ek
    obtain ⟨_, c2, e2, F2, d, rfl, d0, d1⟩ := draw_ok (many := 3) (by decide) (by decide) k c1 (R ++ [.lst ((os ++ [(t, z)]).map encI)]) F1
    by_cases c0 : d = 0
    · have cd0 : decide (d = 0) = true := decide_eq_true c0
      obtain ⟨z', hz'⟩ : ∃ z', atI (zs.map P.str) (0 + (m : Int) - 1) = some (.str z') ∧ (∀ m', m = m' + 1 → zs[m']? = some z') := by
        cases m with
        | zero =>
          have h23 : zs[23]? = some zs[23] := List.getElem?_eq_getElem (by omega)
          refine ⟨zs[23], ?_, fun m' e => by omega⟩
          show atI (zs.map P.str) (-1) = _
          exact atI_neg1 (n := 23) (by rw [List.getElem?_map, h23]; rfl) (by simp [lz])
        | succ m' =>
          have hm' : zs[m']? = some zs[m'] := List.getElem?_eq_getElem (by omega)
          refine ⟨zs[m'], ?_, fun m'' e => ?_⟩
          · rw [show (0 + ((m' + 1 : Nat) : Int) - 1) = (m' : Int) by omega]
            exact atI_natP (by rw [List.getElem?_map, hm']; rfl)
          · have : m'' = m' := by omega
            rw [this, hm']
      have sg : (c2 :: (R ++ [Cell.lst ((os ++ [(t, z)]).map encI)]))[R.length + 1]? = some (.lst ((os ++ [(t, z)]).map encI)) := by simp
      have mz' : z' ∈ zs := by
        have := hz'.1
        unfold atI at this
        cases hq : ixN (zs.map P.str).length (0 + (m : Int) - 1) with
        | none => rw [hq] at this; cases this
        | some q =>
          rw [hq] at this
          have := List.mem_of_getElem? (show (zs.map P.str)[q]? = some (.str z') from this)
          obtain ⟨y, my, ey⟩ := List.mem_map.mp this
          cases ey
          exact my
      have okl : IOk (sLay, z') := ⟨.inl rfl, hn z' mz'⟩
      have ii := in_cell (a := encI (sLay, z')) sg (okl.fine 63) (items_fine Hp.ok)
      rw [inI_P] at ii
      have ii : dInD false (.p (.tup [.str sLay, .str z'])) (.cell (R.length + 1)) (c2 :: (R ++ [Cell.lst ((os ++ [(t, z)]).map encI)])) = _ := ii
      cases hb : inI (sLay, z') (os ++ [(t, z)]) with
      | false =>
        rw [hb] at ii
        refine ⟨os ++ [(t, z)], c2, some (.p (.str t)), ?_, F2, Hp⟩
        generalize (os ++ [(t, z)]).map encI = L at ek e2 ii
        simp only [evs, List.drop_zero, List.drop_succ_cons, Option.map_some, Option.map_none, List.getElem?_cons_zero, List.getElem?_cons_succ, List.set_cons_zero, List.set_cons_succ, List.map_cons, List.map_nil, List.length_cons, List.length_nil, List.take_succ_cons, List.take_zero, if_true, if_false, eq_self, List.contains_cons, List.contains_nil, List.reverse_cons, List.reverse_nil, List.nil_append, List.cons_append, List.append_nil, List.lookup_cons, reduceCtorEq, ↓reduceIte, Nat.reduceAdd, Nat.reduceSub, Nat.reduceBEq, String.reduceBEq, String.reduceEq, Nat.reduceLeDiff, Nat.reduceLT, Int.reduceLT, Int.reduceLE, Int.reduceEq, Int.reduceToNat, Int.reducePow, Int.reduceAdd, Int.reduceSub, Int.reduceMul, Int.reduceNeg, Nat.reducePow, Int.reduceMod, Int.reduceDiv, Nat.reduceEqDiff, ek, e2, cd0, hz'.1, ii]
      | true =>
        rw [hb] at ii
        have mi : (sLay, z') ∈ os := by
          unfold inI at hb
          obtain ⟨j, mj, ej⟩ := List.any_eq_true.mp hb
          have ej := of_decide_eq_true ej
          rw [ej] at mj
          rcases List.mem_append.mp mj with mj | mj
          · exact mj
          · have e := congrArg Prod.fst (List.mem_singleton.mp mj)
            have e : sLay = t := e
            rw [ct] at e
            exact absurd e (by decide +kernel)
        cases m with
        | zero =>
          have := H.len
          have e : os = [] := List.eq_nil_of_length_eq_zero this
          rw [e] at mi
          cases mi
        | succ m' =>
          have Hs := H.swap hz (hz'.2 m' rfl) (by omega) mi
          refine ⟨os ++ [(sCut, z')], c2, some (.p (.str t)), ?_, F2, Hs⟩
          have lx : ixN ((os ++ [(t, z)]).map encI).length (-1) = some os.length := by
            unfold ixN
            rw [if_neg (by omega), if_pos (by simp; omega)]
            have : (-1 + (((os ++ [(t, z)]).map encI).length : Int)) = (os.length : Nat) := by simp; omega
            rw [this]
            rfl
          have st : ((os ++ [(t, z)]).map encI).set os.length (.tup [.str sCut, .str z']) = (os ++ [(sCut, z')]).map encI := by
            rw [List.map_append, List.map_append]
            have : os.length = (os.map encI).length := by simp
            rw [this, List.set_append_right _ _ (Nat.le_refl _)]
            simp [encI]
          rw [← st]
          generalize (os ++ [(t, z)]).map encI = L at ek e2 ii lx
          unfold f__law_hidden_L6
          simp only [evs, List.drop_zero, List.drop_succ_cons, Option.map_some, Option.map_none, List.getElem?_cons_zero, List.getElem?_cons_succ, List.set_cons_zero, List.set_cons_succ, List.map_cons, List.map_nil, List.length_cons, List.length_nil, List.take_succ_cons, List.take_zero, if_true, if_false, eq_self, List.contains_cons, List.contains_nil, List.reverse_cons, List.reverse_nil, List.nil_append, List.cons_append, List.append_nil, List.lookup_cons, reduceCtorEq, ↓reduceIte, Nat.reduceAdd, Nat.reduceSub, Nat.reduceBEq, String.reduceBEq, String.reduceEq, Nat.reduceLeDiff, Nat.reduceLT, Int.reduceLT, Int.reduceLE, Int.reduceEq, Int.reduceToNat, Int.reducePow, Int.reduceAdd, Int.reduceSub, Int.reduceMul, Int.reduceNeg, Nat.reducePow, Int.reduceMod, Int.reduceDiv, Nat.reduceEqDiff, ek, e2, cd0, hz'.1, ii, lx]
    · have cd0 : decide (d = 0) = false := decide_eq_false c0
      refine ⟨os ++ [(t, z)], c2, some (.p (.str t)), ?_, F2, Hp⟩
      generalize (os ++ [(t, z)]).map encI = L at ek e2
      simp only [evs, List.drop_zero, List.drop_succ_cons, Option.map_some, Option.map_none, List.getElem?_cons_zero, List.getElem?_cons_succ, List.set_cons_zero, List.set_cons_succ, List.map_cons, List.map_nil, List.length_cons, List.length_nil, List.take_succ_cons, List.take_zero, if_true, if_false, eq_self, List.contains_cons, List.contains_nil, List.reverse_cons, List.reverse_nil, List.nil_append, List.cons_append, List.append_nil, List.lookup_cons, reduceCtorEq, ↓reduceIte, Nat.reduceAdd, Nat.reduceSub, Nat.reduceBEq, String.reduceBEq, String.reduceEq, Nat.reduceLeDiff, Nat.reduceLT, Int.reduceLT, Int.reduceLE, Int.reduceEq, Int.reduceToNat, Int.reducePow, Int.reduceAdd, Int.reduceSub, Int.reduceMul, Int.reduceNeg, Nat.reducePow, Int.reduceMod, Int.reduceDiv, Nat.reduceEqDiff, ek, e2, cd0]
  · have cd : decide (t = sCut) = false := decide_eq_false ct
    rw [cd] at ek
    refine ⟨os ++ [(t, z)], c1, some (.p (.str t)), ?_, F1.le (by omega), Hp⟩
    generalize (os ++ [(t, z)]).map encI = L at ek
    simp only [evs, List.drop_zero, List.drop_succ_cons, Option.map_some, Option.map_none, List.getElem?_cons_zero, List.getElem?_cons_succ, List.set_cons_zero, List.set_cons_succ, List.map_cons, List.map_nil, List.length_cons, List.length_nil, List.take_succ_cons, List.take_zero, if_true, if_false, eq_self, List.contains_cons, List.contains_nil, List.reverse_cons, List.reverse_nil, List.nil_append, List.cons_append, List.append_nil, List.lookup_cons, reduceCtorEq, ↓reduceIte, Nat.reduceAdd, Nat.reduceSub, Nat.reduceBEq, String.reduceBEq, String.reduceEq, Nat.reduceLeDiff, Nat.reduceLT, Int.reduceLT, Int.reduceLE, Int.reduceEq, Int.reduceToNat, Int.reducePow, Int.reduceAdd, Int.reduceSub, Int.reduceMul, Int.reduceNeg, Nat.reducePow, Int.reduceMod, Int.reduceDiv, Nat.reduceEqDiff, ek]
theorem hidden_ok {n : Nat} (hn : n ≤ 12) : Drw 40 m__law_hidden [.p (.int n)] (fun v => ∃ os : List Itm, v = .lst (os.map encI) ∧ os.length = n ∧ (∀ i ∈ os, IOk i) ∧ os.Nodup) := by
  intro k c R hF
  obtain ⟨_, c1, e1, F1, zs, rfl, lz, nz, dz⟩ := names_okE (n := 24) (by decide) (k + 28) c R hF
  have e1 : m__law_names [.cell 0, .p (.int 24)] (c :: R) = _ := e1
  have hm := in62_of (i := (n : Int)) (by omega) (by omega)
  rw [m__law_hidden_e]
  unfold f__law_hidden
  have hL1 : f__law_hidden_L1 [some (.cell 0), some (.p (.int n)), none, none, none, none] (c :: R) = .nx [some (.cell 0), some (.p (.int n)), none, some (.p (.lst (zs.map P.str))), some (.cell (R.length + 1)), none] (c1 :: (R ++ [.lst []])) := by
    unfold f__law_hidden_L1
    simp only [evs, List.drop_zero, List.drop_succ_cons, Option.map_some, Option.map_none, List.getElem?_cons_zero, List.getElem?_cons_succ, List.set_cons_zero, List.set_cons_succ, List.map_cons, List.map_nil, List.length_cons, List.length_nil, List.take_succ_cons, List.take_zero, if_true, if_false, eq_self, List.contains_cons, List.contains_nil, List.reverse_cons, List.reverse_nil, List.nil_append, List.cons_append, List.append_nil, List.lookup_cons, reduceCtorEq, ↓reduceIte, Nat.reduceAdd, Nat.reduceSub, Nat.reduceBEq, String.reduceBEq, String.reduceEq, Nat.reduceLeDiff, Nat.reduceLT, Int.reduceLT, Int.reduceLE, Int.reduceEq, Int.reduceToNat, Int.reducePow, Int.reduceAdd, Int.reduceSub, Int.reduceMul, Int.reduceNeg, Nat.reducePow, Int.reduceMod, Int.reduceDiv, Nat.reduceEqDiff, e1]
  rw [wSeq, hL1, seq_nx]
  obtain ⟨r', S', g1, os, c2, y2, y5, er, eS, F2, H⟩ := forF_pre (α := Nat) (F := fun i => D.p (.int (0 + (i : Int)))) (T := .nm 2) (f := f__law_hidden_B2) (fun pre r S => ∃ os c y2 y5, r = [some (.cell 0), some (.p (.int n)), y2, some (.p (.lst (zs.map P.str))), some (.cell (R.length + 1)), y5] ∧ S = c :: (R ++ [.lst (os.map encI)]) ∧ Fd (k + 2 * (n - pre.length)) c ∧ Hid zs pre.length os)
    (List.range n) [] (r := [some (.cell 0), some (.p (.int n)), none, some (.p (.lst (zs.map P.str))), some (.cell (R.length + 1)), none]) (S := c1 :: (R ++ [.lst []])) ⟨[], c1, none, none, rfl, rfl, F1.le (by simp; omega), ⟨rfl, fun _ m => (nomatch m), List.nodup_nil, fun _ m => (nomatch m), fun _ _ _ _ _ m => (nomatch m)⟩⟩
    (fun pre i post e r S ⟨os, c, y2, y5, e1, e2, F, H⟩ => by
      subst e1; subst e2
      obtain ⟨ep, hi⟩ := range_split (by simpa using e)
      have lp : pre.length = i := by rw [ep]; simp
      rw [lp] at F H
      obtain ⟨os', c', z5, t1, t2, t3⟩ := hidden_turn (R := R) (k := k + 2 * (n - (i + 1))) (m := i) (n := n) (x5 := y5) (F.le (by omega)) dz nz lz H (by omega)
      refine ⟨_, _, _, rfl, t1, os', c', _, z5, rfl, rfl, ?_, ?_⟩
      · simpa [lp] using t2
      · simpa [lp] using t3)
  subst er; subst eS
  rw [List.nil_append, List.length_range] at F2 H
  unfold f__law_hidden_L2 f__law_hidden_L7
  simp only [evs, List.drop_zero, List.drop_succ_cons, Option.map_some, Option.map_none, List.getElem?_cons_zero, List.getElem?_cons_succ, List.set_cons_zero, List.set_cons_succ, List.map_cons, List.map_nil, List.length_cons, List.length_nil, List.take_succ_cons, List.take_zero, if_true, if_false, eq_self, List.contains_cons, List.contains_nil, List.reverse_cons, List.reverse_nil, List.nil_append, List.cons_append, List.append_nil, List.lookup_cons, reduceCtorEq, ↓reduceIte, Nat.reduceAdd, Nat.reduceSub, Nat.reduceBEq, String.reduceBEq, String.reduceEq, Nat.reduceLeDiff, Nat.reduceLT, Int.reduceLT, Int.reduceLE, Int.reduceEq, Int.reduceToNat, Int.reducePow, Int.reduceAdd, Int.reduceSub, Int.reduceMul, Int.reduceNeg, Nat.reducePow, Int.reduceMod, Int.reduceDiv, Nat.reduceEqDiff, hm]
  rw [show Int.toNat (n : Int) = n from rfl, rngD_map, g1]
  simp only [evs, List.drop_zero, List.drop_succ_cons, Option.map_some, Option.map_none, List.getElem?_cons_zero, List.getElem?_cons_succ, List.set_cons_zero, List.set_cons_succ, List.map_cons, List.map_nil, List.length_cons, List.length_nil, List.take_succ_cons, List.take_zero, if_true, if_false, eq_self, List.contains_cons, List.contains_nil, List.reverse_cons, List.reverse_nil, List.nil_append, List.cons_append, List.append_nil, List.lookup_cons, reduceCtorEq, ↓reduceIte, Nat.reduceAdd, Nat.reduceSub, Nat.reduceBEq, String.reduceBEq, String.reduceEq, Nat.reduceLeDiff, Nat.reduceLT, Int.reduceLT, Int.reduceLE, Int.reduceEq, Int.reduceToNat, Int.reducePow, Int.reduceAdd, Int.reduceSub, Int.reduceMul, Int.reduceNeg, Nat.reducePow, Int.reduceMod, Int.reduceDiv, Nat.reduceEqDiff]
  exact ⟨_, _, rfl, F2.le (by omega), os, rfl, H.len, H.ok, H.nd⟩
/-! ### texts bent -/
def cutL {α : Type} (xs : List α) (lo hi : Option Int) : List α := (xs.drop (HT.sIx xs.length 0 lo)).take (HT.sIx xs.length xs.length hi - HT.sIx xs.length 0 lo)
theorem cutP_map (xs : List Str) (lo hi : Option Int) : cutP (xs.map P.str) lo hi = (cutL xs lo hi).map P.str := by
  unfold cutP cutL
  rw [List.length_map, List.map_take, List.map_drop]
theorem cutL_mem {α : Type} {xs : List α} {lo hi : Option Int} {x : α} (h : x ∈ cutL xs lo hi) : x ∈ xs := List.mem_of_mem_drop (List.mem_of_mem_take h)
/-- the weight of a row of texts -/
def wt (xs : List Str) : Nat := (xs.map fun x => x.length + 1).sum
theorem wt_app (a b : List Str) : wt (a ++ b) = wt a + wt b := by simp [wt]
theorem wt_rev (a : List Str) : wt a.reverse = wt a := by
  unfold wt
  rw [List.map_reverse, List.sum_reverse]
theorem wt_take_drop (a : List Str) (n : Nat) : wt (a.take n) + wt (a.drop n) = wt a := by rw [← wt_app, List.take_append_drop]
theorem wt_cut (a : List Str) (lo hi : Option Int) : wt (cutL a lo hi) ≤ wt a := by
  unfold cutL
  have h1 := wt_take_drop a (HT.sIx a.length 0 lo)
  have h2 := wt_take_drop (a.drop (HT.sIx a.length 0 lo)) (HT.sIx a.length a.length hi - HT.sIx a.length 0 lo)
  omega
theorem cutL_lo (a : List Str) (n : Nat) : cutL a (some (n : Int)) none = a.drop n := by
  unfold cutL
  rw [HT.sIx_none, HT.sIx_nat]
  by_cases h : n ≤ a.length
  · rw [Nat.min_eq_left h, List.take_of_length_le (by simp)]
  · rw [Nat.min_eq_right (by omega), List.drop_of_length_le (Nat.le_refl _), List.drop_of_length_le (by omega)]
    simp
theorem cutL_hi (a : List Str) (n : Nat) : cutL a none (some (n : Int)) = a.take n := by
  unfold cutL
  rw [HT.sIx_none, HT.sIx_nat, List.drop_zero, Nat.sub_zero]
  by_cases h : n ≤ a.length
  · rw [Nat.min_eq_left h]
  · rw [Nat.min_eq_right (by omega), List.take_of_length_le (Nat.le_refl _), List.take_of_length_le (by omega)]
theorem wt_eq (xs : List Str) : wt xs = (xs.map (·.length)).sum + xs.length := by
  induction xs with
  | nil => rfl
  | cons x xs ih => simp only [wt, List.map_cons, List.sum_cons, List.length_cons] at ih ⊢; omega
def AscL (xs : List Str) : Prop := ∀ x ∈ xs, ascS x
/-- what a bent text is -/
def Bent (n : Nat) (v : P) : Prop := ∃ z, v = .str z ∧ ascS z ∧ z.length ≤ n
theorem join_wt {y : Str} (hy : y.length = 1) (ya : ascS y) {xs : List Str} {n : Nat} (ha : AscL xs) (hw : wt xs ≤ n) (hn : n ≤ 16777216) :
    Bent n (.str (Txt.join y xs)) ∧ (xs.map (·.length)).sum + xs.length * 1 ≤ 16777216 := by
  have e := wt_eq xs
  refine ⟨⟨_, rfl, ?_, ?_⟩, by omega⟩
  · rw [join_is]
    exact ascS_join ya ha
  · rw [join_is]
    have := StrLaws.join_length_le y xs
    rw [hy] at this
    omega
abbrev sgA : List P := (Str.ofString " 0123456789-~#:+ab\nA ").cps.toList.map fun c => P.str ⟨#[c]⟩
abbrev sgB : List P := [.str (Str.ofString "lay"), .str (Str.ofString "lift"), .str (Str.ofString " 0"), .str (Str.ofString "-0"), .str (Str.ofString "00"), .str (Str.ofString " a:1"), .str (Str.ofString "~a"), .str (Str.ofString " x"), .str (Str.ofString "#a")]
def sgOk : P → Bool
  | .str z => decide (z.length ≤ 4) && z.cps.toList.all fun c => decide (c < 128)
  | _ => false
theorem sg_ok {v : P} (h : v ∈ sgA ++ sgB) : ∃ z, v = .str z ∧ ascS z ∧ z.length ≤ 4 := by
  have all : ((sgA ++ sgB).all sgOk) = true := by decide +kernel
  have := List.all_eq_true.mp all v h
  cases v <;> simp only [sgOk, Bool.false_eq_true] at this
  rename_i z
  simp only [Bool.and_eq_true, decide_eq_true_eq, List.all_eq_true] at this
  exact ⟨z, rfl, this.2, this.1⟩
theorem bent_ok {t : Str} (ta : ascS t) (tl : t.length ≤ 400) : Drw 5 m__law_text_bent [.p (.str t)] (Bent (2 * t.length + 10)) := by
  intro k c R hF
  obtain ⟨_, c1, e1, F1, at_, rfl, a0, a1⟩ := draw_ok (many := t.length + 1) (by omega) (by omega) (k + 4) c R hF
  obtain ⟨_, c2, e2, F2, way, rfl, w0, w1⟩ := draw_ok (many := 9) (by decide) (by decide) (k + 3) c1 R F1
  obtain ⟨sv, c3, e3, F3, hs⟩ := pick_ok (xs := sgA ++ sgB) (by decide +kernel) (by decide +kernel) (k + 2) c2 R F2
  obtain ⟨s, rfl, sa, sl⟩ := sg_ok hs
  have ht : t.length ≤ 16777216 := by omega
  rw [m__law_text_bent_e]
  unfold f__law_text_bent
  have hL1 : f__law_text_bent_L1 [some (.cell 0), some (.p (.str t)), none, none, none, none, none, none, none] (c :: R) = .nx [some (.cell 0), some (.p (.str t)), none, none, none, none, none, some (.p (.int at_)), some (.p (.int way))] (c2 :: R) := by
    unfold f__law_text_bent_L1
    simp only [evs, List.drop_zero, List.drop_succ_cons, Option.map_some, Option.map_none, List.getElem?_cons_zero, List.getElem?_cons_succ, List.set_cons_zero, List.set_cons_succ, List.map_cons, List.map_nil, List.length_cons, List.length_nil, List.take_succ_cons, List.take_zero, if_true, if_false, eq_self, List.contains_cons, List.contains_nil, List.reverse_cons, List.reverse_nil, List.nil_append, List.cons_append, List.append_nil, List.lookup_cons, reduceCtorEq, ↓reduceIte, Nat.reduceAdd, Nat.reduceSub, Nat.reduceBEq, String.reduceBEq, String.reduceEq, Nat.reduceLeDiff, Nat.reduceLT, Int.reduceLT, Int.reduceLE, Int.reduceEq, Int.reduceToNat, Int.reducePow, Int.reduceAdd, Int.reduceSub, Int.reduceMul, Int.reduceNeg, Nat.reducePow, Int.reduceMod, Int.reduceDiv, Nat.reduceEqDiff, ht, e1, e2]
  have sz1 : (Str.ofString " 0123456789-~#:+ab\nA ").cps.size ≤ 16777216 := by decide +kernel
  have hL2 : f__law_text_bent_L2 [some (.cell 0), some (.p (.str t)), none, none, none, none, none, some (.p (.int at_)), some (.p (.int way))] (c2 :: R) = .nx [some (.cell 0), some (.p (.str t)), some (.p (.str s)), none, none, none, none, some (.p (.int at_)), some (.p (.int way))] (c3 :: R) := by
    unfold f__law_text_bent_L2
    have ln : sgA.length ≤ 16777207 := by decide +kernel
    have e3 : m__law_pick [.cell 0, .p (.lst (sgA ++ sgB))] (c2 :: R) = .ok (.p (.str s)) (c3 :: R) := e3
    simp only [sgA, sgB] at e3 ln
    simp only [evs, List.drop_zero, List.drop_succ_cons, Option.map_some, Option.map_none, List.getElem?_cons_zero, List.getElem?_cons_succ, List.set_cons_zero, List.set_cons_succ, List.map_cons, List.map_nil, List.length_cons, List.length_nil, List.take_succ_cons, List.take_zero, if_true, if_false, eq_self, List.contains_cons, List.contains_nil, List.reverse_cons, List.reverse_nil, List.nil_append, List.cons_append, List.append_nil, List.lookup_cons, reduceCtorEq, ↓reduceIte, Nat.reduceAdd, Nat.reduceSub, Nat.reduceBEq, String.reduceBEq, String.reduceEq, Nat.reduceLeDiff, Nat.reduceLT, Int.reduceLT, Int.reduceLE, Int.reduceEq, Int.reduceToNat, Int.reducePow, Int.reduceAdd, Int.reduceSub, Int.reduceMul, Int.reduceNeg, Nat.reducePow, Int.reduceMod, Int.reduceDiv, Nat.reduceEqDiff, sz1, e3, ln]
  rw [wSeq, hL1, seq_nx, wSeq, hL2, seq_nx]
  obtain ⟨n, rfl⟩ := Int.eq_ofNat_of_zero_le a0
  have h1 := cut_hi (z := t) (k := (n : Int)) (by omega)
  have cl : ∀ a b, (cutS t a b).length ≤ t.length := fun a b => cutS_length t a b
  have ca : ∀ a b, ascS (cutS t a b) := fun a b => cut_asc ta
  by_cases w2 : way < 2
  · have wd : decide (way < 2) = true := decide_eq_true w2
    have g1 : (cutS t none (some (n : Int))).length + s.length ≤ 16777216 := by have := cl none (some (n : Int)); omega
    have g2 : (cutS t none (some (n : Int)) ++ s).length + (cutS t (some ((n : Int) + way)) none).length ≤ 16777216 := by
      rw [len_app]; have := cl none (some (n : Int)); have := cl (some ((n : Int) + way)) none; omega
    have hL3 : f__law_text_bent_L3 [some (.cell 0), some (.p (.str t)), some (.p (.str s)), none, none, none, none, some (.p (.int n)), some (.p (.int way))] (c3 :: R) = .rt (.p (.str (cutS t none (some (n : Int)) ++ s ++ cutS t (some ((n : Int) + way)) none))) (c3 :: R) := by
      unfold f__law_text_bent_L3 f__law_text_bent_L4
      simp only [evs, List.drop_zero, List.drop_succ_cons, Option.map_some, Option.map_none, List.getElem?_cons_zero, List.getElem?_cons_succ, List.set_cons_zero, List.set_cons_succ, List.map_cons, List.map_nil, List.length_cons, List.length_nil, List.take_succ_cons, List.take_zero, if_true, if_false, eq_self, List.contains_cons, List.contains_nil, List.reverse_cons, List.reverse_nil, List.nil_append, List.cons_append, List.append_nil, List.lookup_cons, reduceCtorEq, ↓reduceIte, Nat.reduceAdd, Nat.reduceSub, Nat.reduceBEq, String.reduceBEq, String.reduceEq, Nat.reduceLeDiff, Nat.reduceLT, Int.reduceLT, Int.reduceLE, Int.reduceEq, Int.reduceToNat, Int.reducePow, Int.reduceAdd, Int.reduceSub, Int.reduceMul, Int.reduceNeg, Nat.reducePow, Int.reduceMod, Int.reduceDiv, Nat.reduceEqDiff, wd, ht, g1, g2]
    rw [wSeq, hL3]
    simp only [evs, List.drop_zero, List.drop_succ_cons, Option.map_some, Option.map_none, List.getElem?_cons_zero, List.getElem?_cons_succ, List.set_cons_zero, List.set_cons_succ, List.map_cons, List.map_nil, List.length_cons, List.length_nil, List.take_succ_cons, List.take_zero, if_true, if_false, eq_self, List.contains_cons, List.contains_nil, List.reverse_cons, List.reverse_nil, List.nil_append, List.cons_append, List.append_nil, List.lookup_cons, reduceCtorEq, ↓reduceIte, Nat.reduceAdd, Nat.reduceSub, Nat.reduceBEq, String.reduceBEq, String.reduceEq, Nat.reduceLeDiff, Nat.reduceLT, Int.reduceLT, Int.reduceLE, Int.reduceEq, Int.reduceToNat, Int.reducePow, Int.reduceAdd, Int.reduceSub, Int.reduceMul, Int.reduceNeg, Nat.reducePow, Int.reduceMod, Int.reduceDiv, Nat.reduceEqDiff]
    refine ⟨_, c3, rfl, F3.le (by omega), _, rfl, ascS_app (ascS_app (ca _ _) sa) (ca _ _), ?_⟩
    rw [len_app, len_app]
    have := cl none (some (n : Int)); have := cl (some ((n : Int) + way)) none; omega
  have wd2 : decide (way < 2) = false := decide_eq_false w2
  have hL3 : f__law_text_bent_L3 [some (.cell 0), some (.p (.str t)), some (.p (.str s)), none, none, none, none, some (.p (.int n)), some (.p (.int way))] (c3 :: R) = .nx [some (.cell 0), some (.p (.str t)), some (.p (.str s)), none, none, none, none, some (.p (.int n)), some (.p (.int way))] (c3 :: R) := by
    unfold f__law_text_bent_L3
    simp only [evs, List.drop_zero, List.drop_succ_cons, Option.map_some, Option.map_none, List.getElem?_cons_zero, List.getElem?_cons_succ, List.set_cons_zero, List.set_cons_succ, List.map_cons, List.map_nil, List.length_cons, List.length_nil, List.take_succ_cons, List.take_zero, if_true, if_false, eq_self, List.contains_cons, List.contains_nil, List.reverse_cons, List.reverse_nil, List.nil_append, List.cons_append, List.append_nil, List.lookup_cons, reduceCtorEq, ↓reduceIte, Nat.reduceAdd, Nat.reduceSub, Nat.reduceBEq, String.reduceBEq, String.reduceEq, Nat.reduceLeDiff, Nat.reduceLT, Int.reduceLT, Int.reduceLE, Int.reduceEq, Int.reduceToNat, Int.reducePow, Int.reduceAdd, Int.reduceSub, Int.reduceMul, Int.reduceNeg, Nat.reducePow, Int.reduceMod, Int.reduceDiv, Nat.reduceEqDiff, wd2]
  rw [wSeq, hL3, seq_nx]
  by_cases w3 : way = 2
  · have wd : decide (way = 2) = true := decide_eq_true w3
    have g1 : (cutS t none (some (n : Int))).length + (cutS t (some ((n : Int) + 1)) none).length ≤ 16777216 := by have := cl none (some (n : Int)); have := cl (some ((n : Int) + 1)) none; omega
    have hL5 : f__law_text_bent_L5 [some (.cell 0), some (.p (.str t)), some (.p (.str s)), none, none, none, none, some (.p (.int n)), some (.p (.int way))] (c3 :: R) = .rt (.p (.str (cutS t none (some (n : Int)) ++ cutS t (some ((n : Int) + 1)) none))) (c3 :: R) := by
      unfold f__law_text_bent_L5 f__law_text_bent_L6
      simp only [evs, List.drop_zero, List.drop_succ_cons, Option.map_some, Option.map_none, List.getElem?_cons_zero, List.getElem?_cons_succ, List.set_cons_zero, List.set_cons_succ, List.map_cons, List.map_nil, List.length_cons, List.length_nil, List.take_succ_cons, List.take_zero, if_true, if_false, eq_self, List.contains_cons, List.contains_nil, List.reverse_cons, List.reverse_nil, List.nil_append, List.cons_append, List.append_nil, List.lookup_cons, reduceCtorEq, ↓reduceIte, Nat.reduceAdd, Nat.reduceSub, Nat.reduceBEq, String.reduceBEq, String.reduceEq, Nat.reduceLeDiff, Nat.reduceLT, Int.reduceLT, Int.reduceLE, Int.reduceEq, Int.reduceToNat, Int.reducePow, Int.reduceAdd, Int.reduceSub, Int.reduceMul, Int.reduceNeg, Nat.reducePow, Int.reduceMod, Int.reduceDiv, Nat.reduceEqDiff, wd, ht, g1]
    rw [wSeq, hL5]
    simp only [evs, List.drop_zero, List.drop_succ_cons, Option.map_some, Option.map_none, List.getElem?_cons_zero, List.getElem?_cons_succ, List.set_cons_zero, List.set_cons_succ, List.map_cons, List.map_nil, List.length_cons, List.length_nil, List.take_succ_cons, List.take_zero, if_true, if_false, eq_self, List.contains_cons, List.contains_nil, List.reverse_cons, List.reverse_nil, List.nil_append, List.cons_append, List.append_nil, List.lookup_cons, reduceCtorEq, ↓reduceIte, Nat.reduceAdd, Nat.reduceSub, Nat.reduceBEq, String.reduceBEq, String.reduceEq, Nat.reduceLeDiff, Nat.reduceLT, Int.reduceLT, Int.reduceLE, Int.reduceEq, Int.reduceToNat, Int.reducePow, Int.reduceAdd, Int.reduceSub, Int.reduceMul, Int.reduceNeg, Nat.reducePow, Int.reduceMod, Int.reduceDiv, Nat.reduceEqDiff]
    refine ⟨_, c3, rfl, F3.le (by omega), _, rfl, ascS_app (ca _ _) (ca _ _), ?_⟩
    rw [len_app]
    have := cl none (some (n : Int)); have := cl (some ((n : Int) + 1)) none; omega
  have wd3 : decide (way = 2) = false := decide_eq_false w3
  have hL5 : f__law_text_bent_L5 [some (.cell 0), some (.p (.str t)), some (.p (.str s)), none, none, none, none, some (.p (.int n)), some (.p (.int way))] (c3 :: R) = .nx [some (.cell 0), some (.p (.str t)), some (.p (.str s)), none, none, none, none, some (.p (.int n)), some (.p (.int way))] (c3 :: R) := by
    unfold f__law_text_bent_L5
    simp only [evs, List.drop_zero, List.drop_succ_cons, Option.map_some, Option.map_none, List.getElem?_cons_zero, List.getElem?_cons_succ, List.set_cons_zero, List.set_cons_succ, List.map_cons, List.map_nil, List.length_cons, List.length_nil, List.take_succ_cons, List.take_zero, if_true, if_false, eq_self, List.contains_cons, List.contains_nil, List.reverse_cons, List.reverse_nil, List.nil_append, List.cons_append, List.append_nil, List.lookup_cons, reduceCtorEq, ↓reduceIte, Nat.reduceAdd, Nat.reduceSub, Nat.reduceBEq, String.reduceBEq, String.reduceEq, Nat.reduceLeDiff, Nat.reduceLT, Int.reduceLT, Int.reduceLE, Int.reduceEq, Int.reduceToNat, Int.reducePow, Int.reduceAdd, Int.reduceSub, Int.reduceMul, Int.reduceNeg, Nat.reducePow, Int.reduceMod, Int.reduceDiv, Nat.reduceEqDiff, wd3]
  rw [wSeq, hL5, seq_nx]
  by_cases w4 : way = 3
  · have wd : decide (way = 3) = true := decide_eq_true w4
    have h2 := cut_lo (z := t) (k := (n : Int)) (by omega) (by omega)
    have g1 : (cutS t none (some (n : Int))).length + (cutS t (some (n : Int)) (some ((n : Int) + 1))).length ≤ 16777216 := by have := cl none (some (n : Int)); have := cl (some (n : Int)) (some ((n : Int) + 1)); omega
    have g2 : (cutS t none (some (n : Int)) ++ cutS t (some (n : Int)) (some ((n : Int) + 1))).length + (cutS t (some (n : Int)) none).length ≤ 16777216 := by
      rw [len_app]; have := cl none (some (n : Int)); have := cl (some (n : Int)) (some ((n : Int) + 1)); have := cl (some (n : Int)) none; omega
    have hL7 : f__law_text_bent_L7 [some (.cell 0), some (.p (.str t)), some (.p (.str s)), none, none, none, none, some (.p (.int n)), some (.p (.int way))] (c3 :: R) = .rt (.p (.str (cutS t none (some (n : Int)) ++ cutS t (some (n : Int)) (some ((n : Int) + 1)) ++ cutS t (some (n : Int)) none))) (c3 :: R) := by
      unfold f__law_text_bent_L7 f__law_text_bent_L8
      simp only [evs, List.drop_zero, List.drop_succ_cons, Option.map_some, Option.map_none, List.getElem?_cons_zero, List.getElem?_cons_succ, List.set_cons_zero, List.set_cons_succ, List.map_cons, List.map_nil, List.length_cons, List.length_nil, List.take_succ_cons, List.take_zero, if_true, if_false, eq_self, List.contains_cons, List.contains_nil, List.reverse_cons, List.reverse_nil, List.nil_append, List.cons_append, List.append_nil, List.lookup_cons, reduceCtorEq, ↓reduceIte, Nat.reduceAdd, Nat.reduceSub, Nat.reduceBEq, String.reduceBEq, String.reduceEq, Nat.reduceLeDiff, Nat.reduceLT, Int.reduceLT, Int.reduceLE, Int.reduceEq, Int.reduceToNat, Int.reducePow, Int.reduceAdd, Int.reduceSub, Int.reduceMul, Int.reduceNeg, Nat.reducePow, Int.reduceMod, Int.reduceDiv, Nat.reduceEqDiff, wd, ht, g1, g2]
    rw [wSeq, hL7]
    simp only [evs, List.drop_zero, List.drop_succ_cons, Option.map_some, Option.map_none, List.getElem?_cons_zero, List.getElem?_cons_succ, List.set_cons_zero, List.set_cons_succ, List.map_cons, List.map_nil, List.length_cons, List.length_nil, List.take_succ_cons, List.take_zero, if_true, if_false, eq_self, List.contains_cons, List.contains_nil, List.reverse_cons, List.reverse_nil, List.nil_append, List.cons_append, List.append_nil, List.lookup_cons, reduceCtorEq, ↓reduceIte, Nat.reduceAdd, Nat.reduceSub, Nat.reduceBEq, String.reduceBEq, String.reduceEq, Nat.reduceLeDiff, Nat.reduceLT, Int.reduceLT, Int.reduceLE, Int.reduceEq, Int.reduceToNat, Int.reducePow, Int.reduceAdd, Int.reduceSub, Int.reduceMul, Int.reduceNeg, Nat.reducePow, Int.reduceMod, Int.reduceDiv, Nat.reduceEqDiff]
    refine ⟨_, c3, rfl, F3.le (by omega), _, rfl, ascS_app (ascS_app (ca _ _) (ca _ _)) (ca _ _), ?_⟩
    rw [len_app, len_app]
    have := cl (some (n : Int)) (some ((n : Int) + 1)); omega
  have wd4 : decide (way = 3) = false := decide_eq_false w4
  have hL7 : f__law_text_bent_L7 [some (.cell 0), some (.p (.str t)), some (.p (.str s)), none, none, none, none, some (.p (.int n)), some (.p (.int way))] (c3 :: R) = .nx [some (.cell 0), some (.p (.str t)), some (.p (.str s)), none, none, none, none, some (.p (.int n)), some (.p (.int way))] (c3 :: R) := by
    unfold f__law_text_bent_L7
    simp only [evs, List.drop_zero, List.drop_succ_cons, Option.map_some, Option.map_none, List.getElem?_cons_zero, List.getElem?_cons_succ, List.set_cons_zero, List.set_cons_succ, List.map_cons, List.map_nil, List.length_cons, List.length_nil, List.take_succ_cons, List.take_zero, if_true, if_false, eq_self, List.contains_cons, List.contains_nil, List.reverse_cons, List.reverse_nil, List.nil_append, List.cons_append, List.append_nil, List.lookup_cons, reduceCtorEq, ↓reduceIte, Nat.reduceAdd, Nat.reduceSub, Nat.reduceBEq, String.reduceBEq, String.reduceEq, Nat.reduceLeDiff, Nat.reduceLT, Int.reduceLT, Int.reduceLE, Int.reduceEq, Int.reduceToNat, Int.reducePow, Int.reduceAdd, Int.reduceSub, Int.reduceMul, Int.reduceNeg, Nat.reducePow, Int.reduceMod, Int.reduceDiv, Nat.reduceEqDiff, wd4]
  rw [wSeq, hL7, seq_nx]
  obtain ⟨y, hL9, hy, ya⟩ : ∃ y, f__law_text_bent_L9 [some (.cell 0), some (.p (.str t)), some (.p (.str s)), none, none, none, none, some (.p (.int n)), some (.p (.int way))] (c3 :: R) = .nx [some (.cell 0), some (.p (.str t)), some (.p (.str s)), some (.p (.str y)), none, none, none, some (.p (.int n)), some (.p (.int way))] (c3 :: R) ∧ y.length = 1 ∧ ascS y := by
    unfold f__law_text_bent_L9
    by_cases w7 : way < 7
    · have wd : decide (way < 7) = true := decide_eq_true w7
      refine ⟨Str.ofString " ", ?_, by decide +kernel, by unfold ascS; decide +kernel⟩
      simp only [evs, List.drop_zero, List.drop_succ_cons, Option.map_some, Option.map_none, List.getElem?_cons_zero, List.getElem?_cons_succ, List.set_cons_zero, List.set_cons_succ, List.map_cons, List.map_nil, List.length_cons, List.length_nil, List.take_succ_cons, List.take_zero, if_true, if_false, eq_self, List.contains_cons, List.contains_nil, List.reverse_cons, List.reverse_nil, List.nil_append, List.cons_append, List.append_nil, List.lookup_cons, reduceCtorEq, ↓reduceIte, Nat.reduceAdd, Nat.reduceSub, Nat.reduceBEq, String.reduceBEq, String.reduceEq, Nat.reduceLeDiff, Nat.reduceLT, Int.reduceLT, Int.reduceLE, Int.reduceEq, Int.reduceToNat, Int.reducePow, Int.reduceAdd, Int.reduceSub, Int.reduceMul, Int.reduceNeg, Nat.reducePow, Int.reduceMod, Int.reduceDiv, Nat.reduceEqDiff, wd]
    · have wd : decide (way < 7) = false := decide_eq_false w7
      refine ⟨Str.ofString "\n", ?_, by decide +kernel, by unfold ascS; decide +kernel⟩
      simp only [evs, List.drop_zero, List.drop_succ_cons, Option.map_some, Option.map_none, List.getElem?_cons_zero, List.getElem?_cons_succ, List.set_cons_zero, List.set_cons_succ, List.map_cons, List.map_nil, List.length_cons, List.length_nil, List.take_succ_cons, List.take_zero, if_true, if_false, eq_self, List.contains_cons, List.contains_nil, List.reverse_cons, List.reverse_nil, List.nil_append, List.cons_append, List.append_nil, List.lookup_cons, reduceCtorEq, ↓reduceIte, Nat.reduceAdd, Nat.reduceSub, Nat.reduceBEq, String.reduceBEq, String.reduceEq, Nat.reduceLeDiff, Nat.reduceLT, Int.reduceLT, Int.reduceLE, Int.reduceEq, Int.reduceToNat, Int.reducePow, Int.reduceAdd, Int.reduceSub, Int.reduceMul, Int.reduceNeg, Nat.reducePow, Int.reduceMod, Int.reduceDiv, Nat.reduceEqDiff, wd]
  rw [wSeq, hL9, seq_nx]
  have sw := PyProof.Rows.split_weight t y (by omega)
  have sp := PyProof.Rows.split_pos t y
  have pa : AscL (Txt.split t y) := fun p m => split_asc ta m
  rw [← wt_eq] at sw
  have y0 : (y.length == 0) = false := by rw [hy]; rfl
  have ht2 : t.length + 2 ≤ 16777216 := by omega
  have hL10 : f__law_text_bent_L10 [some (.cell 0), some (.p (.str t)), some (.p (.str s)), some (.p (.str y)), none, none, none, some (.p (.int n)), some (.p (.int way))] (c3 :: R) = .nx [some (.cell 0), some (.p (.str t)), some (.p (.str s)), some (.p (.str y)), some (.p (.lst ((Txt.split t y).map P.str))), none, none, some (.p (.int n)), some (.p (.int way))] (c3 :: R) := by
    unfold f__law_text_bent_L10
    simp only [evs, List.drop_zero, List.drop_succ_cons, Option.map_some, Option.map_none, List.getElem?_cons_zero, List.getElem?_cons_succ, List.set_cons_zero, List.set_cons_succ, List.map_cons, List.map_nil, List.length_cons, List.length_nil, List.take_succ_cons, List.take_zero, if_true, if_false, eq_self, List.contains_cons, List.contains_nil, List.reverse_cons, List.reverse_nil, List.nil_append, List.cons_append, List.append_nil, List.lookup_cons, reduceCtorEq, ↓reduceIte, Nat.reduceAdd, Nat.reduceSub, Nat.reduceBEq, String.reduceBEq, String.reduceEq, Nat.reduceLeDiff, Nat.reduceLT, Int.reduceLT, Int.reduceLE, Int.reduceEq, Int.reduceToNat, Int.reducePow, Int.reduceAdd, Int.reduceSub, Int.reduceMul, Int.reduceNeg, Nat.reducePow, Int.reduceMod, Int.reduceDiv, Nat.reduceEqDiff, dSplit, y0, ht2]
  rw [wSeq, hL10, seq_nx]
  generalize Txt.split t y = ps at sw sp pa
  have lp : ps.length ≤ wt ps := by rw [wt_eq]; omega
  obtain ⟨_, c4, e4, F4, kk, rfl, k0, k1⟩ := draw_ok (many := (ps.length : Nat)) (by omega) (by omega) (k + 1) c3 R F3
  obtain ⟨j, rfl⟩ := Int.eq_ofNat_of_zero_le k0
  have hL11 : f__law_text_bent_L11 [some (.cell 0), some (.p (.str t)), some (.p (.str s)), some (.p (.str y)), some (.p (.lst (ps.map P.str))), none, none, some (.p (.int n)), some (.p (.int way))] (c3 :: R) = .nx [some (.cell 0), some (.p (.str t)), some (.p (.str s)), some (.p (.str y)), some (.p (.lst (ps.map P.str))), some (.p (.int j)), none, some (.p (.int n)), some (.p (.int way))] (c4 :: R) := by
    unfold f__law_text_bent_L11
    simp only [evs, List.drop_zero, List.drop_succ_cons, Option.map_some, Option.map_none, List.getElem?_cons_zero, List.getElem?_cons_succ, List.set_cons_zero, List.set_cons_succ, List.map_cons, List.map_nil, List.length_cons, List.length_nil, List.take_succ_cons, List.take_zero, if_true, if_false, eq_self, List.contains_cons, List.contains_nil, List.reverse_cons, List.reverse_nil, List.nil_append, List.cons_append, List.append_nil, List.lookup_cons, reduceCtorEq, ↓reduceIte, Nat.reduceAdd, Nat.reduceSub, Nat.reduceBEq, String.reduceBEq, String.reduceEq, Nat.reduceLeDiff, Nat.reduceLT, Int.reduceLT, Int.reduceLE, Int.reduceEq, Int.reduceToNat, Int.reducePow, Int.reduceAdd, Int.reduceSub, Int.reduceMul, Int.reduceNeg, Nat.reducePow, Int.reduceMod, Int.reduceDiv, Nat.reduceEqDiff, List.length_map, e4]
  rw [wSeq, hL11, seq_nx]
  have lc : ∀ a b, (cutL ps a b).length ≤ 500 := fun a b => by
    have h := wt_cut ps a b
    have := wt_eq (cutL ps a b)
    omega
  have la : ∀ a b, AscL (cutL ps a b) := fun a b x m => pa x (cutL_mem m)
  let q1 := cutL ps none (some (j : Int)) ++ cutL ps (some ((j : Int) + 1)) none
  let q2 := cutL ps none (some ((j : Int) + 1)) ++ cutL ps (some (j : Int)) none
  let q3 := cutL ps none (some (j : Int)) ++ (cutL ps (some (j : Int)) (some ((j : Int) + 2))).reverse ++ cutL ps (some ((j : Int) + 2)) none
  let q4 := cutL ps none (some (j : Int)) ++ [s] ++ cutL ps (some (j : Int)) none
  have cs : ∀ a b c d, (cutL ps a b).length + (cutL ps c d).length ≤ 16777216 := fun a b c d => by have := lc a b; have := lc c d; omega
  have hL12 : f__law_text_bent_L12 [some (.cell 0), some (.p (.str t)), some (.p (.str s)), some (.p (.str y)), some (.p (.lst (ps.map P.str))), some (.p (.int j)), none, some (.p (.int n)), some (.p (.int way))] (c4 :: R) = .nx [some (.cell 0), some (.p (.str t)), some (.p (.str s)), some (.p (.str y)), some (.p (.lst (ps.map P.str))), some (.p (.int j)), some (.p (.lst [.lst (q1.map P.str), .lst (q2.map P.str)])), some (.p (.int n)), some (.p (.int way))] (c4 :: R) := by
    unfold f__law_text_bent_L12
    have g1 := cs none (some (j : Int)) (some ((j : Int) + 1)) none
    have g2 := cs none (some ((j : Int) + 1)) (some (j : Int)) none
    simp only [evs, List.drop_zero, List.drop_succ_cons, Option.map_some, Option.map_none, List.getElem?_cons_zero, List.getElem?_cons_succ, List.set_cons_zero, List.set_cons_succ, List.map_cons, List.map_nil, List.length_cons, List.length_nil, List.take_succ_cons, List.take_zero, if_true, if_false, eq_self, List.contains_cons, List.contains_nil, List.reverse_cons, List.reverse_nil, List.nil_append, List.cons_append, List.append_nil, List.lookup_cons, reduceCtorEq, ↓reduceIte, Nat.reduceAdd, Nat.reduceSub, Nat.reduceBEq, String.reduceBEq, String.reduceEq, Nat.reduceLeDiff, Nat.reduceLT, Int.reduceLT, Int.reduceLE, Int.reduceEq, Int.reduceToNat, Int.reducePow, Int.reduceAdd, Int.reduceSub, Int.reduceMul, Int.reduceNeg, Nat.reducePow, Int.reduceMod, Int.reduceDiv, Nat.reduceEqDiff, cutP_map, List.length_map, g1, g2]
    simp [q1, q2]
  rw [wSeq, hL12, seq_nx]
  have hL13 : f__law_text_bent_L13 [some (.cell 0), some (.p (.str t)), some (.p (.str s)), some (.p (.str y)), some (.p (.lst (ps.map P.str))), some (.p (.int j)), some (.p (.lst [.lst (q1.map P.str), .lst (q2.map P.str)])), some (.p (.int n)), some (.p (.int way))] (c4 :: R) = .nx [some (.cell 0), some (.p (.str t)), some (.p (.str s)), some (.p (.str y)), some (.p (.lst (ps.map P.str))), some (.p (.int j)), some (.p (.lst [.lst (q1.map P.str), .lst (q2.map P.str), .lst (q3.map P.str), .lst (q4.map P.str)])), some (.p (.int n)), some (.p (.int way))] (c4 :: R) := by
    unfold f__law_text_bent_L13
    generalize q1 = Q1
    generalize q2 = Q2
    have g1 : (cutL ps none (some (j : Int))).length + (cutL ps (some (j : Int)) (some ((j : Int) + 2))).length ≤ 16777216 := cs ..
    have g2 : (cutL ps none (some (j : Int))).length + (cutL ps (some (j : Int)) (some ((j : Int) + 2))).length + (cutL ps (some ((j : Int) + 2)) none).length ≤ 16777216 := by
      have := lc none (some (j : Int)); have := lc (some (j : Int)) (some ((j : Int) + 2)); have := lc (some ((j : Int) + 2)) none; omega
    have g3 : (cutL ps none (some (j : Int))).length + 1 ≤ 16777216 := by have := lc none (some (j : Int)); omega
    have g4 : (cutL ps none (some (j : Int))).length + 1 + (cutL ps (some (j : Int)) none).length ≤ 16777216 := by have := lc none (some (j : Int)); have := lc (some (j : Int)) none; omega
    simp only [evs, List.drop_zero, List.drop_succ_cons, Option.map_some, Option.map_none, List.getElem?_cons_zero, List.getElem?_cons_succ, List.set_cons_zero, List.set_cons_succ, List.map_cons, List.map_nil, List.length_cons, List.length_nil, List.take_succ_cons, List.take_zero, if_true, if_false, eq_self, List.contains_cons, List.contains_nil, List.reverse_cons, List.reverse_nil, List.nil_append, List.cons_append, List.append_nil, List.lookup_cons, reduceCtorEq, ↓reduceIte, Nat.reduceAdd, Nat.reduceSub, Nat.reduceBEq, String.reduceBEq, String.reduceEq, Nat.reduceLeDiff, Nat.reduceLT, Int.reduceLT, Int.reduceLE, Int.reduceEq, Int.reduceToNat, Int.reducePow, Int.reduceAdd, Int.reduceSub, Int.reduceMul, Int.reduceNeg, Nat.reducePow, Int.reduceMod, Int.reduceDiv, Nat.reduceEqDiff, cutP_map, List.length_map, List.length_reverse, List.length_append, g1, g2, g3, g4]
    simp [q3, q4]
  rw [wSeq, hL13, seq_nx]
  obtain ⟨qv, c5, e5, F5, hq⟩ := pick_ok (xs := [.lst (q1.map P.str), .lst (q2.map P.str), .lst (q3.map P.str), .lst (q4.map P.str)]) (by simp) (by simp) k c4 R F4
  have fin : ∃ Q : List Str, qv = .lst (Q.map P.str) ∧ AscL Q ∧ wt Q ≤ 2 * t.length + 10 := by
    have app_asc : ∀ {a b : List Str}, AscL a → AscL b → AscL (a ++ b) := fun {a b} ha hb x m => (List.mem_append.mp m).elim (ha x) (hb x)
    have td := wt_take_drop ps j
    simp only [List.mem_cons, List.not_mem_nil, or_false] at hq
    rcases hq with rfl | rfl | rfl | rfl
    · refine ⟨q1, rfl, app_asc (la _ _) (la _ _), ?_⟩
      rw [wt_app]
      have := wt_cut ps none (some (j : Int)); have := wt_cut ps (some ((j : Int) + 1)) none
      omega
    · refine ⟨q2, rfl, app_asc (la _ _) (la _ _), ?_⟩
      rw [wt_app]
      have := wt_cut ps none (some ((j : Int) + 1)); have := wt_cut ps (some (j : Int)) none
      omega
    · refine ⟨q3, rfl, app_asc (app_asc (la _ _) (fun x m => la _ _ x (List.mem_reverse.mp m))) (la _ _), ?_⟩
      rw [wt_app, wt_app, wt_rev]
      have h1 := wt_cut ps (some (j : Int)) (some ((j : Int) + 2))
      have h2 : wt (cutL ps (some ((j : Int) + 2)) none) ≤ wt (ps.drop j) := by
        rw [show ((j : Int) + 2) = ((j + 2 : Nat) : Int) by omega, cutL_lo, show ps.drop (j + 2) = (ps.drop j).drop 2 by rw [List.drop_drop]]
        have := wt_take_drop (ps.drop j) 2
        omega
      rw [cutL_hi]
      omega
    · refine ⟨q4, rfl, app_asc (app_asc (la _ _) (fun x m => by rw [List.mem_singleton.mp m]; exact sa)) (la _ _), ?_⟩
      rw [wt_app, wt_app, cutL_hi, cutL_lo]
      have : wt [s] = s.length + 1 := by simp [wt]
      omega
  obtain ⟨Q, rfl, aQ, wQ⟩ := fin
  obtain ⟨j1, j2⟩ := join_wt hy ya aQ wQ (by omega)
  have sq : strsP (Q.map P.str) = some Q := by
    have := strsP_map (fun x : Str => x) Q
    rw [List.map_id'] at this
    exact this
  unfold f__law_text_bent_L14
  generalize q1.map P.str = Q1 at e5
  generalize q2.map P.str = Q2 at e5
  generalize q3.map P.str = Q3 at e5
  generalize q4.map P.str = Q4 at e5
  simp only [evs, List.drop_zero, List.drop_succ_cons, Option.map_some, Option.map_none, List.getElem?_cons_zero, List.getElem?_cons_succ, List.set_cons_zero, List.set_cons_succ, List.map_cons, List.map_nil, List.length_cons, List.length_nil, List.take_succ_cons, List.take_zero, if_true, if_false, eq_self, List.contains_cons, List.contains_nil, List.reverse_cons, List.reverse_nil, List.nil_append, List.cons_append, List.append_nil, List.lookup_cons, reduceCtorEq, ↓reduceIte, Nat.reduceAdd, Nat.reduceSub, Nat.reduceBEq, String.reduceBEq, String.reduceEq, Nat.reduceLeDiff, Nat.reduceLT, Int.reduceLT, Int.reduceLE, Int.reduceEq, Int.reduceToNat, Int.reducePow, Int.reduceAdd, Int.reduceSub, Int.reduceMul, Int.reduceNeg, Nat.reducePow, Int.reduceMod, Int.reduceDiv, Nat.reduceEqDiff, e5, sq, hy, j2]
  exact ⟨_, c5, rfl, F5, j1⟩
/-! ### the law -/
theorem rdW_lt : ∀ {ws : List Str} {k j : Nat} {fs : List Itm}, rdW ws k fs = .inl j → j < k + ws.length
  | [], k, j, fs, h => (nomatch h)
  | w :: ws, k, j, fs, h => by
    unfold rdW at h
    rw [List.length_cons]
    split at h
    · split at h
      · cases h; omega
      · have := rdW_lt h; omega
    · cases h; omega
theorem rdW_len : ∀ {ws : List Str} {k : Nat} {fs gs : List Itm}, rdW ws k fs = .inr gs → gs.length = fs.length + ws.length
  | [], k, fs, gs, h => by cases h; rfl
  | w :: ws, k, fs, gs, h => by
    unfold rdW at h
    rw [List.length_cons]
    split at h
    · split at h
      · cases h
      · have := rdW_len h
        simp at this
        omega
    · cases h
theorem rp_item {i : Itm} (h : IOk i) : rp 1 200 (encI i) := by
  have hn := name_chars h.n
  have hk : i.1.length ≤ 4 := by
    have : ∀ k ∈ [sLay, sCut, sDike], k.length ≤ 4 := by decide +kernel
    exact this i.1 (by simpa using h.k)
  refine rp_tup (d := 0) (n := 82) (fun x m => ?_) (by simp)
  simp only [List.mem_cons, List.not_mem_nil, or_false] at m
  rcases m with rfl | rfl
  · exact rp_str h.asc.1 (by omega)
  · exact rp_str h.asc.2 (by omega)
theorem rp_items {os : List Itm} (h : ∀ i ∈ os, IOk i) (hl : os.length ≤ 1100) : rp 2 300000 (.lst (os.map encI)) := by
  refine rp_lst (d := 1) (n := 200) (fun x m => ?_) (by rw [List.length_map]; omega)
  obtain ⟨i, mi, rfl⟩ := List.mem_map.mp m
  exact rp_item (h i mi)
theorem ne_strs {z : Str} (h : ascS z) {S : Store} : dEqv true (.p (.str z)) (.p (.str z)) S = .ok (.p (.bl false)) S := ne_same (strOk_asc h 64)
section
variable {f : Cell} {R : Store} {os : List Itm}
theorem texts_turn {z : Str} {x0 x1 x2 x3 x4 x5 x6 x8 x9 x11 : Option D} {x10 : Option D} (h : WOk z) :
    ∃ R' y10, f_law_B13 [x0, x1, x2, x3, x4, x5, x6, some (.p (.str z)), x8, x9, x10, x11] (f :: R) = .nx [x0, x1, x2, x3, x4, x5, x6, some (.p (.str z)), x8, x9, y10, x11] (f :: R') := by
  have ow := order_in_eq h (f :: R)
  obtain ⟨t1, t2⟩ := told_eq h (f :: R)
  obtain ⟨_, lw⟩ := words_ok h
  unfold f_law_B13
  cases e : rdW (wordsOf z) 0 [] with
  | inl j =>
    rw [e] at ow
    have g := t1 j e
    have jl := rdW_lt e
    have rr : rp 1 500 (.tup [.int 0, .int (j : Nat), .bl true]) := by
      refine rp_tup (d := 0) (n := 61) (fun x m => ?_) (by simp)
      simp only [List.mem_cons, List.not_mem_nil, or_false] at m
      rcases m with rfl | rfl | rfl
      · exact rp_int (by decide)
      · exact rp_int (by
          have : ((j : Nat) : Int).natAbs ≤ 2000 := by omega
          exact Nat.lt_of_le_of_lt this (by decide))
      · exact rpB_ok (by decide +kernel)
    have d1 := repr_tx rr (by decide) (by decide) (f :: R)
    have q1 := ne_strs (tx_asc rr) (S := f :: R)
    generalize tx (.tup [.int 0, .int (j : Nat), .bl true]) = T at d1 q1
    refine ⟨R, some (.p (.int (j : Nat))), ?_⟩
    unfold f_law_L14 f_law_L15
    simp only [evs, List.drop_zero, List.drop_succ_cons, Option.map_some, Option.map_none, List.getElem?_cons_zero, List.getElem?_cons_succ, List.set_cons_zero, List.set_cons_succ, List.map_cons, List.map_nil, List.length_cons, List.length_nil, List.take_succ_cons, List.take_zero, if_true, if_false, eq_self, List.contains_cons, List.contains_nil, List.reverse_cons, List.reverse_nil, List.nil_append, List.cons_append, List.append_nil, List.lookup_cons, reduceCtorEq, ↓reduceIte, Nat.reduceAdd, Nat.reduceSub, Nat.reduceBEq, String.reduceBEq, String.reduceEq, Nat.reduceLeDiff, Nat.reduceLT, Int.reduceLT, Int.reduceLE, Int.reduceEq, Int.reduceToNat, Int.reducePow, Int.reduceAdd, Int.reduceSub, Int.reduceMul, Int.reduceNeg, Nat.reducePow, Int.reduceMod, Int.reduceDiv, Nat.reduceEqDiff, ow, dueP, g, d1, q1]
  | inr gs =>
    rw [e] at ow
    obtain ⟨go, g⟩ := t2 gs e
    have gl := rdW_len e
    have rr := rp_items go (by simp at gl; omega)
    have s1 : (f :: R ++ [Cell.lst (gs.map encI)])[(f :: R).length]? = some (.lst (gs.map encI)) := by simp
    have d1 := repr_cell rr (by decide) (by decide) s1
    have d2 := repr_tx rr (by decide) (by decide) (f :: R ++ [.lst (gs.map encI)])
    have q1 := ne_strs (tx_asc rr) (S := f :: R ++ [.lst (gs.map encI)])
    generalize tx (.lst (gs.map encI)) = T at d1 d2 q1
    have ow : m__law_order_in [.p (.str z)] (f :: R) = .ok (.p (.lst (gs.map encI))) (f :: R) := ow
    generalize gs.map encI = G at ow g d1 d2 q1
    refine ⟨R ++ [.lst G], some (.p (.lst G)), ?_⟩
    have hL14 : f_law_L14 [x0, x1, x2, x3, x4, x5, x6, some (.p (.str z)), x8, x9, x10, x11] (f :: R) = .nx [x0, x1, x2, x3, x4, x5, x6, some (.p (.str z)), x8, x9, some (.p (.lst G)), x11] (f :: R) := by
      unfold f_law_L14
      simp only [evs, List.drop_zero, List.drop_succ_cons, Option.map_some, Option.map_none, List.getElem?_cons_zero, List.getElem?_cons_succ, List.set_cons_zero, List.set_cons_succ, List.map_cons, List.map_nil, List.length_cons, List.length_nil, List.take_succ_cons, List.take_zero, if_true, if_false, eq_self, List.contains_cons, List.contains_nil, List.reverse_cons, List.reverse_nil, List.nil_append, List.cons_append, List.append_nil, List.lookup_cons, reduceCtorEq, ↓reduceIte, Nat.reduceAdd, Nat.reduceSub, Nat.reduceBEq, String.reduceBEq, String.reduceEq, Nat.reduceLeDiff, Nat.reduceLT, Int.reduceLT, Int.reduceLE, Int.reduceEq, Int.reduceToNat, Int.reducePow, Int.reduceAdd, Int.reduceSub, Int.reduceMul, Int.reduceNeg, Nat.reducePow, Int.reduceMod, Int.reduceDiv, Nat.reduceEqDiff, ow]
    rw [wSeq, hL14, seq_nx]
    unfold f_law_L15
    have e1 : (f :: R).length = R.length + 1 := rfl
    rw [e1] at g d1
    have e2 : f :: R ++ [Cell.lst G] = f :: (R ++ [Cell.lst G]) := rfl
    rw [e2] at g d1 d2 q1
    simp only [wIfS_e, wTest_e, wBin_e, wCB, wCons_e, wCall0, wVar, wC, List.getElem?_cons_zero, List.getElem?_cons_succ, bind_ok, consK, wNil, consK2, b1_1, b2_2, g, d1, d2, binK, q1, testK_e, st_ok, ifK, wNext, Bool.false_eq_true, if_false, wIf_e, ifEK, dIsi, tyS, isB, tyN, decide_false]
    try simp only [evs, List.drop_zero, List.drop_succ_cons, Option.map_some, Option.map_none, List.getElem?_cons_zero, List.getElem?_cons_succ, List.set_cons_zero, List.set_cons_succ, List.map_cons, List.map_nil, List.length_cons, List.length_nil, List.take_succ_cons, List.take_zero, if_true, if_false, eq_self, List.contains_cons, List.contains_nil, List.reverse_cons, List.reverse_nil, List.nil_append, List.cons_append, List.append_nil, List.lookup_cons, reduceCtorEq, ↓reduceIte, Nat.reduceAdd, Nat.reduceSub, Nat.reduceBEq, String.reduceBEq, String.reduceEq, Nat.reduceLeDiff, Nat.reduceLT, Int.reduceLT, Int.reduceLE, Int.reduceEq, Int.reduceToNat, Int.reducePow, Int.reduceAdd, Int.reduceSub, Int.reduceMul, Int.reduceNeg, Nat.reducePow, Int.reduceMod, Int.reduceDiv, Nat.reduceEqDiff, d2, q1]
theorem texts_loop {zs : List Str} {x0 x1 x2 x3 x4 x5 x6 x8 x9 x11 : Option D} (hz : ∀ z ∈ zs, WOk z) {x7 x10 : Option D} : ∃ R' y7 y10, forF (.nm 7) f_law_B13 ((zs.map P.str).map D.p) [x0, x1, x2, x3, x4, x5, x6, x7, x8, x9, x10, x11] (f :: R) = .nx [x0, x1, x2, x3, x4, x5, x6, y7, x8, x9, y10, x11] (f :: R') := by
  rw [List.map_map]
  obtain ⟨r', S', g, R', y7, y10, e1, e2⟩ := forF_pre (F := D.p ∘ P.str) (T := .nm 7) (f := f_law_B13) (fun _ r S => ∃ R' y7 y10, r = [x0, x1, x2, x3, x4, x5, x6, y7, x8, x9, y10, x11] ∧ S = f :: R') zs [] (r := [x0, x1, x2, x3, x4, x5, x6, x7, x8, x9, x10, x11]) (S := f :: R) ⟨R, x7, x10, rfl, rfl⟩
    (fun pre z post e r S ⟨R', y7, y10, e1, e2⟩ => by
      subst e1; subst e2
      obtain ⟨R2, z10, t⟩ := texts_turn (f := f) (R := R') (z := z) (x0 := x0) (x1 := x1) (x2 := x2) (x3 := x3) (x4 := x4) (x5 := x5) (x6 := x6) (x8 := x8) (x9 := x9) (x11 := x11) (x10 := y10) (hz z (by rw [List.nil_append] at e; rw [e]; simp))
      exact ⟨_, _, _, rfl, t, R2, _, z10, rfl, rfl⟩)
  subst e1; subst e2
  exact ⟨R', y7, y10, g⟩
end
theorem bend_loop {f : Cell} {R : Store} {k : Nat} {os : List Itm} {zs : List Str} {x0 x2 x3 x7 x8 x10 x11 : Option D} {x6 x9 : Option D} (hF : Fd (k + 60) f) (fa : ascS (form os)) (fl : (form os).length ≤ 120) (hz : ∀ z ∈ zs, WOk z) (lz : zs.length ≤ 100) :
    ∃ (f' : Cell) (zs' : List Str) (y6 y9 : Option D), f_law_L10 [x0, some (.cell 0), x2, x3, some (.p (.str (form os))), some (.p (.lst (zs.map P.str))), x6, x7, x8, x9, x10, x11] (f :: R) = .nx [x0, some (.cell 0), x2, x3, some (.p (.str (form os))), some (.p (.lst (zs'.map P.str))), y6, x7, x8, y9, x10, x11] (f' :: R) ∧ Fd k f' ∧ (∀ z ∈ zs', WOk z) := by
  have i6 : in62 6 = true := by decide +kernel
  obtain ⟨r', S', g1, f', zs', y6, y9, e1, e2, F', hz', lz'⟩ := forF_inv (T := .nm 6) (f := f_law_B10) (fun j r S => ∃ (f : Cell) (zs : List Str) (y6 y9 : Option D), S = f :: R ∧ r = [x0, some (.cell 0), x2, x3, some (.p (.str (form os))), some (.p (.lst (zs.map P.str))), y6, x7, x8, y9, x10, x11] ∧ Fd (k + 10 * j) f ∧ (∀ z ∈ zs, WOk z) ∧ zs.length + 2 * j ≤ 200)
    (ds := rngD 0 6) (k := 0) (r := [x0, some (.cell 0), x2, x3, some (.p (.str (form os))), some (.p (.lst (zs.map P.str))), x6, x7, x8, x9, x10, x11]) (S := f :: R) ⟨f, zs, x6, x9, rfl, rfl, hF.le (by rw [rng_len]; omega), hz, by rw [rng_len]; omega⟩
    (fun d md j r S ⟨f, zs, y6, y9, e1, e2, F, hz, lz⟩ => by
      subst e1; subst e2
      obtain ⟨_, f1, b1, F1, z1, rfl, a1, l1⟩ := bent_ok fa (by omega) (k + 10 * j + 5) f R (F.le (by omega))
      obtain ⟨_, f2, b2, F2, z2, rfl, a2, l2⟩ := bent_ok a1 (by omega) (k + 10 * j) f1 R F1
      have ln : zs.length ≤ 16777214 := by omega
      refine ⟨_, [x0, some (.cell 0), x2, x3, some (.p (.str (form os))), some (.p (.lst ((zs ++ [z1, z2]).map P.str))), some (d), x7, x8, some (.p (.str z1)), x10, x11], _, rfl, ?_, f2, zs ++ [z1, z2], some d, some (.p (.str z1)), rfl, rfl, F2, fun z m => ?_, by simp; omega⟩
      · generalize form os = F0 at b1
        unfold f_law_B10 f_law_L11 f_law_L12
        simp only [evs, List.drop_zero, List.drop_succ_cons, Option.map_some, Option.map_none, List.getElem?_cons_zero, List.getElem?_cons_succ, List.set_cons_zero, List.set_cons_succ, List.map_cons, List.map_nil, List.length_cons, List.length_nil, List.take_succ_cons, List.take_zero, if_true, if_false, eq_self, List.contains_cons, List.contains_nil, List.reverse_cons, List.reverse_nil, List.nil_append, List.cons_append, List.append_nil, List.lookup_cons, reduceCtorEq, ↓reduceIte, Nat.reduceAdd, Nat.reduceSub, Nat.reduceBEq, String.reduceBEq, String.reduceEq, Nat.reduceLeDiff, Nat.reduceLT, Int.reduceLT, Int.reduceLE, Int.reduceEq, Int.reduceToNat, Int.reducePow, Int.reduceAdd, Int.reduceSub, Int.reduceMul, Int.reduceNeg, Nat.reducePow, Int.reduceMod, Int.reduceDiv, Nat.reduceEqDiff, b1, b2, List.length_map, ln]
        simp
      · rcases List.mem_append.mp m with m | m
        · exact hz z m
        · simp only [List.mem_cons, List.not_mem_nil, or_false] at m
          rcases m with rfl | rfl
          · exact ⟨a1, by omega⟩
          · exact ⟨a2, by omega⟩)
  subst e1; subst e2
  refine ⟨f', zs', y6, y9, ?_, F'.le (by omega), hz'⟩
  unfold f_law_L10
  simp only [evs, List.drop_zero, List.drop_succ_cons, Option.map_some, Option.map_none, List.getElem?_cons_zero, List.getElem?_cons_succ, List.set_cons_zero, List.set_cons_succ, List.map_cons, List.map_nil, List.length_cons, List.length_nil, List.take_succ_cons, List.take_zero, if_true, if_false, eq_self, List.contains_cons, List.contains_nil, List.reverse_cons, List.reverse_nil, List.nil_append, List.cons_append, List.append_nil, List.lookup_cons, reduceCtorEq, ↓reduceIte, Nat.reduceAdd, Nat.reduceSub, Nat.reduceBEq, String.reduceBEq, String.reduceEq, Nat.reduceLeDiff, Nat.reduceLT, Int.reduceLT, Int.reduceLE, Int.reduceEq, Int.reduceToNat, Int.reducePow, Int.reduceAdd, Int.reduceSub, Int.reduceMul, Int.reduceNeg, Nat.reducePow, Int.reduceMod, Int.reduceDiv, Nat.reduceEqDiff, i6]
  exact g1
theorem ne_cell {xs : List P} {S : Store} {n : Nat} (hs : S[n]? = some (.lst xs)) (h : fines 63 xs = true) : dEqv true (.cell n) (.p (.lst xs)) S = .ok (.p (.bl false)) S := by
  rw [eq_cell hs]
  exact ne_same (by simpa only [fine] using h)
theorem turn_ok {f : Cell} {R : Store} {k : Nat} {x3 x4 x5 x6 x7 x8 x9 x10 x11 : Option D} {x0 x2 : Option D} (hF : Fd (k + 110) f) :
    ∃ f' R' y3 y4 y5 y6 y7 y8 y9 y10 y11, f_law_B2 [x0, some (.cell 0), x2, x3, x4, x5, x6, x7, x8, x9, x10, x11] (f :: R) = .nx [x0, some (.cell 0), x2, y3, y4, y5, y6, y7, y8, y9, y10, y11] (f' :: R') ∧ Fd k f' := by
  obtain ⟨_, f1, e1, F1, d, rfl, d0, d1⟩ := draw_ok (many := 13) (by decide) (by decide) (k + 109) f R hF
  obtain ⟨n, rfl⟩ := Int.eq_ofNat_of_zero_le d0
  obtain ⟨_, f2, e2, F2, os, rfl, lo, ok, nd⟩ := hidden_ok (n := n) (by omega) (k + 69) f1 R F1
  have fa := form_asc ok
  have fl : (form os).length ≤ 120 := by have := form_len ok; omega
  have wf : WOk (form os) := ⟨fa, by omega⟩
  have rf := read_form ok nd
  have ft := items_fine (n := 62) ok
  have wr := written_eq ok (by omega) (f2 :: R)
  obtain ⟨ot1, ot2⟩ := order_text_eq ok (by omega) (f2 :: R)
  have rs : rp 0 1300 (.str (form os)) := rp_str fa (by omega)
  have r1 := repr_tx rs (by decide) (by decide) (f2 :: R)
  have q1 := ne_strs (tx_asc rs) (S := f2 :: R)
  have q2 := ne_strs fa (S := f2 :: R)
  have ri := rp_items ok (by omega)
  unfold f_law_B2
  have hL3 : f_law_L3 [x0, some (.cell 0), x2, x3, x4, x5, x6, x7, x8, x9, x10, x11] (f :: R) = .nx [x0, some (.cell 0), x2, some (.p (.lst (os.map encI))), x4, x5, x6, x7, x8, x9, x10, x11] (f2 :: R) := by
    unfold f_law_L3
    simp only [evs, List.drop_zero, List.drop_succ_cons, Option.map_some, Option.map_none, List.getElem?_cons_zero, List.getElem?_cons_succ, List.set_cons_zero, List.set_cons_succ, List.map_cons, List.map_nil, List.length_cons, List.length_nil, List.take_succ_cons, List.take_zero, if_true, if_false, eq_self, List.contains_cons, List.contains_nil, List.reverse_cons, List.reverse_nil, List.nil_append, List.cons_append, List.append_nil, List.lookup_cons, reduceCtorEq, ↓reduceIte, Nat.reduceAdd, Nat.reduceSub, Nat.reduceBEq, String.reduceBEq, String.reduceEq, Nat.reduceLeDiff, Nat.reduceLT, Int.reduceLT, Int.reduceLE, Int.reduceEq, Int.reduceToNat, Int.reducePow, Int.reduceAdd, Int.reduceSub, Int.reduceMul, Int.reduceNeg, Nat.reducePow, Int.reduceMod, Int.reduceDiv, Nat.reduceEqDiff, e1, e2]
  have hL4 : f_law_L4 [x0, some (.cell 0), x2, some (.p (.lst (os.map encI))), x4, x5, x6, x7, x8, x9, x10, x11] (f2 :: R) = .nx [x0, some (.cell 0), x2, some (.p (.lst (os.map encI))), some (.p (.str (form os))), x5, x6, x7, x8, x9, x10, x11] (f2 :: R) := by
    unfold f_law_L4
    simp only [evs, List.drop_zero, List.drop_succ_cons, Option.map_some, Option.map_none, List.getElem?_cons_zero, List.getElem?_cons_succ, List.set_cons_zero, List.set_cons_succ, List.map_cons, List.map_nil, List.length_cons, List.length_nil, List.take_succ_cons, List.take_zero, if_true, if_false, eq_self, List.contains_cons, List.contains_nil, List.reverse_cons, List.reverse_nil, List.nil_append, List.cons_append, List.append_nil, List.lookup_cons, reduceCtorEq, ↓reduceIte, Nat.reduceAdd, Nat.reduceSub, Nat.reduceBEq, String.reduceBEq, String.reduceEq, Nat.reduceLeDiff, Nat.reduceLT, Int.reduceLT, Int.reduceLE, Int.reduceEq, Int.reduceToNat, Int.reducePow, Int.reduceAdd, Int.reduceSub, Int.reduceMul, Int.reduceNeg, Nat.reducePow, Int.reduceMod, Int.reduceDiv, Nat.reduceEqDiff, wr]
  have hL5 : f_law_L5 [x0, some (.cell 0), x2, some (.p (.lst (os.map encI))), some (.p (.str (form os))), x5, x6, x7, x8, x9, x10, x11] (f2 :: R) = .nx [x0, some (.cell 0), x2, some (.p (.lst (os.map encI))), some (.p (.str (form os))), x5, x6, x7, x8, x9, x10, x11] (f2 :: R) := by
    generalize tx (.str (form os)) = T at r1 q1
    generalize form os = F0 at ot1 ot2 r1 q2
    unfold f_law_L5
    simp only [evs, List.drop_zero, List.drop_succ_cons, Option.map_some, Option.map_none, List.getElem?_cons_zero, List.getElem?_cons_succ, List.set_cons_zero, List.set_cons_succ, List.map_cons, List.map_nil, List.length_cons, List.length_nil, List.take_succ_cons, List.take_zero, if_true, if_false, eq_self, List.contains_cons, List.contains_nil, List.reverse_cons, List.reverse_nil, List.nil_append, List.cons_append, List.append_nil, List.lookup_cons, reduceCtorEq, ↓reduceIte, Nat.reduceAdd, Nat.reduceSub, Nat.reduceBEq, String.reduceBEq, String.reduceEq, Nat.reduceLeDiff, Nat.reduceLT, Int.reduceLT, Int.reduceLE, Int.reduceEq, Int.reduceToNat, Int.reducePow, Int.reduceAdd, Int.reduceSub, Int.reduceMul, Int.reduceNeg, Nat.reducePow, Int.reduceMod, Int.reduceDiv, Nat.reduceEqDiff, ot1, ot2, r1, q1, q2]
  rw [wSeq, hL3, seq_nx, wSeq, hL4, seq_nx, wSeq, hL5, seq_nx]
  have rd : ∀ S, m_read_order [.p (.str (form os))] S = .ok (.cell S.length) (S ++ [.lst (os.map encI)]) := fun S => ((read_order_eq wf S).2 os rf).2
  have hL7 : f_law_L7 [x0, some (.cell 0), x2, some (.p (.lst (os.map encI))), some (.p (.str (form os))), x5, x6, x7, x8, x9, x10, x11] (f2 :: R) = .nx [x0, some (.cell 0), x2, some (.p (.lst (os.map encI))), some (.p (.str (form os))), x5, x6, x7, x8, x9, x10, x11] (f2 :: (R ++ [.lst (os.map encI), .lst (os.map encI)])) := by
    have g1 : m_read_order [.p (.str (form os))] (f2 :: R) = .ok (.cell (R.length + 1)) (f2 :: (R ++ [.lst (os.map encI)])) := rd (f2 :: R)
    have g2 : m_read_order [.p (.str (form os))] (f2 :: (R ++ [.lst (os.map encI)])) = .ok (.cell (R.length + 2)) (f2 :: (R ++ [.lst (os.map encI), .lst (os.map encI)])) := by
      have := rd (f2 :: (R ++ [.lst (os.map encI)]))
      simpa using this
    have s1 : (f2 :: (R ++ [Cell.lst (os.map encI)]))[R.length + 1]? = some (.lst (os.map encI)) := by simp
    have s2 : (f2 :: (R ++ [Cell.lst (os.map encI), .lst (os.map encI)]))[R.length + 2]? = some (.lst (os.map encI)) := by simp
    have a1 := repr_cell ri (by decide) (by decide) s1
    have a2 := repr_tx ri (by decide) (by decide) (f2 :: (R ++ [.lst (os.map encI)]))
    have a3 := ne_strs (tx_asc ri) (S := f2 :: (R ++ [.lst (os.map encI)]))
    have a4 := ne_cell s2 ft
    generalize tx (.lst (os.map encI)) = T at a1 a2 a3
    generalize form os = F0 at g1 g2
    generalize os.map encI = G at g1 g2 a1 a2 a3 a4
    unfold f_law_L7
    simp only [wIfS_e, wOr_e, wTest_e, wBin_e, wCB, wCons_e, wCall0, wVar, wC, List.getElem?_cons_zero, List.getElem?_cons_succ, bind_ok, consK, wNil, consK2, b1_1, g1, g2, a1, a2, a3, a4, binK, orK, testK_e, st_ok, ifK, wNext, Bool.false_eq_true, if_false]
  rw [wSeq, hL7, seq_nx]
  generalize R ++ [Cell.lst (os.map encI), .lst (os.map encI)] = R1
  obtain ⟨zs, hL9, wz, lz⟩ : ∃ zs : List Str, f_law_L9 [x0, some (.cell 0), x2, some (.p (.lst (os.map encI))), some (.p (.str (form os))), x5, x6, x7, x8, x9, x10, x11] (f2 :: R1) = .nx [x0, some (.cell 0), x2, some (.p (.lst (os.map encI))), some (.p (.str (form os))), some (.p (.lst (zs.map P.str))), x6, x7, x8, x9, x10, x11] (f2 :: R1) ∧ (∀ z ∈ zs, WOk z) ∧ zs.length ≤ 100 := by
    have l1 : (Str.ofString " ").length = 1 := by decide +kernel
    have l2 : (Str.ofString "\n").length = 1 := by decide +kernel
    have l3 : (Str.ofString "\n+a").length = 3 := by decide +kernel
    have l4 : (Str.ofString " +").length = 2 := by decide +kernel
    have l5 : (Str.ofString " zz").length = 3 := by decide +kernel
    have b1 : ascS (Str.ofString " ") := by unfold ascS; decide +kernel
    have b2 : ascS (Str.ofString "\n") := by unfold ascS; decide +kernel
    have b3 : ascS (Str.ofString "\n+a") := by unfold ascS; decide +kernel
    have b4 : ascS (Str.ofString " +") := by unfold ascS; decide +kernel
    have b5 : ascS (Str.ofString " zz") := by unfold ascS; decide +kernel
    generalize form os = F0 at fa fl
    refine ⟨[F0 ++ Str.ofString " ", Str.ofString " " ++ F0, F0 ++ Str.ofString "\n", F0 ++ Str.ofString "\n+a", F0 ++ Str.ofString " " ++ F0, F0 ++ Str.ofString " +", F0 ++ Str.ofString " zz"], ?_, fun z m => ?_, by simp⟩
    · have g1 : F0.length + (Str.ofString " ").length ≤ 16777216 := by omega
      have g2 : (Str.ofString " ").length + F0.length ≤ 16777216 := by omega
      have g3 : F0.length + (Str.ofString "\n").length ≤ 16777216 := by omega
      have g4 : F0.length + (Str.ofString "\n+a").length ≤ 16777216 := by omega
      have g5 : (F0 ++ Str.ofString " ").length + F0.length ≤ 16777216 := by rw [len_app]; omega
      have g6 : F0.length + (Str.ofString " +").length ≤ 16777216 := by omega
      have g7 : F0.length + (Str.ofString " zz").length ≤ 16777216 := by omega
      unfold f_law_L9
      simp only [evs, List.drop_zero, List.drop_succ_cons, Option.map_some, Option.map_none, List.getElem?_cons_zero, List.getElem?_cons_succ, List.set_cons_zero, List.set_cons_succ, List.map_cons, List.map_nil, List.length_cons, List.length_nil, List.take_succ_cons, List.take_zero, if_true, if_false, eq_self, List.contains_cons, List.contains_nil, List.reverse_cons, List.reverse_nil, List.nil_append, List.cons_append, List.append_nil, List.lookup_cons, reduceCtorEq, ↓reduceIte, Nat.reduceAdd, Nat.reduceSub, Nat.reduceBEq, String.reduceBEq, String.reduceEq, Nat.reduceLeDiff, Nat.reduceLT, Int.reduceLT, Int.reduceLE, Int.reduceEq, Int.reduceToNat, Int.reducePow, Int.reduceAdd, Int.reduceSub, Int.reduceMul, Int.reduceNeg, Nat.reducePow, Int.reduceMod, Int.reduceDiv, Nat.reduceEqDiff, g1, g2, g3, g4, g5, g6, g7]
    · simp only [List.mem_cons, List.not_mem_nil, or_false] at m
      rcases m with rfl | rfl | rfl | rfl | rfl | rfl | rfl
      · exact ⟨ascS_app fa b1, by rw [len_app]; omega⟩
      · exact ⟨ascS_app b1 fa, by rw [len_app]; omega⟩
      · exact ⟨ascS_app fa b2, by rw [len_app]; omega⟩
      · exact ⟨ascS_app fa b3, by rw [len_app]; omega⟩
      · exact ⟨ascS_app (ascS_app fa b1) fa, by rw [len_app, len_app]; omega⟩
      · exact ⟨ascS_app fa b4, by rw [len_app]; omega⟩
      · exact ⟨ascS_app fa b5, by rw [len_app]; omega⟩
  rw [wSeq, hL9, seq_nx]
  obtain ⟨f3, zs3, y6, y9, hL10, F3, wz3⟩ := bend_loop (f := f2) (R := R1) (k := k) (os := os) (zs := zs) (x0 := x0) (x2 := x2) (x3 := some (.p (.lst (os.map encI)))) (x6 := x6) (x7 := x7) (x8 := x8) (x9 := x9) (x10 := x10) (x11 := x11) (F2.le (by omega)) fa fl wz lz
  rw [wSeq, hL10, seq_nx]
  obtain ⟨R2, y7, y10, hL13⟩ := texts_loop (f := f3) (R := R1) (zs := zs3) (x0 := x0) (x1 := some (.cell 0)) (x2 := x2) (x3 := some (.p (.lst (os.map encI)))) (x4 := some (.p (.str (form os)))) (x5 := some (.p (.lst (zs3.map P.str)))) (x6 := y6) (x7 := x7) (x8 := x8) (x9 := y9) (x10 := x10) (x11 := x11) wz3
  have hL13' : f_law_L13 [x0, some (.cell 0), x2, some (.p (.lst (os.map encI))), some (.p (.str (form os))), some (.p (.lst (zs3.map P.str))), y6, x7, x8, y9, x10, x11] (f3 :: R1) = .nx [x0, some (.cell 0), x2, some (.p (.lst (os.map encI))), some (.p (.str (form os))), some (.p (.lst (zs3.map P.str))), y6, y7, x8, y9, y10, x11] (f3 :: R2) := by
    unfold f_law_L13
    simp only [evs, List.drop_zero, List.drop_succ_cons, Option.map_some, Option.map_none, List.getElem?_cons_zero, List.getElem?_cons_succ, List.set_cons_zero, List.set_cons_succ, List.map_cons, List.map_nil, List.length_cons, List.length_nil, List.take_succ_cons, List.take_zero, if_true, if_false, eq_self, List.contains_cons, List.contains_nil, List.reverse_cons, List.reverse_nil, List.nil_append, List.cons_append, List.append_nil, List.lookup_cons, reduceCtorEq, ↓reduceIte, Nat.reduceAdd, Nat.reduceSub, Nat.reduceBEq, String.reduceBEq, String.reduceEq, Nat.reduceLeDiff, Nat.reduceLT, Int.reduceLT, Int.reduceLE, Int.reduceEq, Int.reduceToNat, Int.reducePow, Int.reduceAdd, Int.reduceSub, Int.reduceMul, Int.reduceNeg, Nat.reducePow, Int.reduceMod, Int.reduceDiv, Nat.reduceEqDiff]
    exact hL13
  rw [wSeq, hL13', seq_nx]
  have hx : os.length < 16777216 := by omega
  have hL17 : f_law_L17 [x0, some (.cell 0), x2, some (.p (.lst (os.map encI))), some (.p (.str (form os))), some (.p (.lst (zs3.map P.str))), y6, y7, x8, y9, y10, x11] (f3 :: R2) = .nx [x0, some (.cell 0), x2, some (.p (.lst (os.map encI))), some (.p (.str (form os))), some (.p (.lst (zs3.map P.str))), y6, y7, some (.cell (R2.length + 1)), y9, y10, x11] (f3 :: (R2 ++ [.lst (os.map encI)])) := by
    have g1 : m_read_order [.p (.str (form os))] (f3 :: R2) = .ok (.cell (R2.length + 1)) (f3 :: (R2 ++ [.lst (os.map encI)])) := rd (f3 :: R2)
    unfold f_law_L17
    simp only [evs, List.drop_zero, List.drop_succ_cons, Option.map_some, Option.map_none, List.getElem?_cons_zero, List.getElem?_cons_succ, List.set_cons_zero, List.set_cons_succ, List.map_cons, List.map_nil, List.length_cons, List.length_nil, List.take_succ_cons, List.take_zero, if_true, if_false, eq_self, List.contains_cons, List.contains_nil, List.reverse_cons, List.reverse_nil, List.nil_append, List.cons_append, List.append_nil, List.lookup_cons, reduceCtorEq, ↓reduceIte, Nat.reduceAdd, Nat.reduceSub, Nat.reduceBEq, String.reduceBEq, String.reduceEq, Nat.reduceLeDiff, Nat.reduceLT, Int.reduceLT, Int.reduceLE, Int.reduceEq, Int.reduceToNat, Int.reducePow, Int.reduceAdd, Int.reduceSub, Int.reduceMul, Int.reduceNeg, Nat.reducePow, Int.reduceMod, Int.reduceDiv, Nat.reduceEqDiff, g1]
  have hL18 : f_law_L18 [x0, some (.cell 0), x2, some (.p (.lst (os.map encI))), some (.p (.str (form os))), some (.p (.lst (zs3.map P.str))), y6, y7, some (.cell (R2.length + 1)), y9, y10, x11] (f3 :: (R2 ++ [.lst (os.map encI)])) = .nx [x0, some (.cell 0), x2, some (.p (.lst (os.map encI))), some (.p (.str (form os))), some (.p (.lst (zs3.map P.str))), y6, y7, some (.cell (R2.length + 1)), y9, y10, x11] (f3 :: (R2 ++ [.lst (os.map encI ++ [.non])])) := by
    unfold f_law_L18
    simp only [evs, List.drop_zero, List.drop_succ_cons, Option.map_some, Option.map_none, List.getElem?_cons_zero, List.getElem?_cons_succ, List.set_cons_zero, List.set_cons_succ, List.map_cons, List.map_nil, List.length_cons, List.length_nil, List.take_succ_cons, List.take_zero, if_true, if_false, eq_self, List.contains_cons, List.contains_nil, List.reverse_cons, List.reverse_nil, List.nil_append, List.cons_append, List.append_nil, List.lookup_cons, reduceCtorEq, ↓reduceIte, Nat.reduceAdd, Nat.reduceSub, Nat.reduceBEq, String.reduceBEq, String.reduceEq, Nat.reduceLeDiff, Nat.reduceLT, Int.reduceLT, Int.reduceLE, Int.reduceEq, Int.reduceToNat, Int.reducePow, Int.reduceAdd, Int.reduceSub, Int.reduceMul, Int.reduceNeg, Nat.reducePow, Int.reduceMod, Int.reduceDiv, Nat.reduceEqDiff, hx, List.length_map]
  rw [wSeq, hL17, seq_nx, wSeq, hL18, seq_nx]
  generalize R2 ++ [Cell.lst (os.map encI ++ [.non])] = R3
  have hL19 : f_law_L19 [x0, some (.cell 0), x2, some (.p (.lst (os.map encI))), some (.p (.str (form os))), some (.p (.lst (zs3.map P.str))), y6, y7, some (.cell (R2.length + 1)), y9, y10, x11] (f3 :: R3) = .nx [x0, some (.cell 0), x2, some (.p (.lst (os.map encI))), some (.p (.str (form os))), some (.p (.lst (zs3.map P.str))), y6, y7, some (.cell (R2.length + 1)), y9, y10, x11] (f3 :: (R3 ++ [.lst (os.map encI)])) := by
    have g1 : m_read_order [.p (.str (form os))] (f3 :: R3) = .ok (.cell (R3.length + 1)) (f3 :: (R3 ++ [.lst (os.map encI)])) := rd (f3 :: R3)
    have s2 : (f3 :: (R3 ++ [Cell.lst (os.map encI)]))[R3.length + 1]? = some (.lst (os.map encI)) := by simp
    have a4 := ne_cell s2 ft
    generalize form os = F0 at g1
    generalize os.map encI = G at g1 a4
    unfold f_law_L19
    simp only [wIfS_e, wTest_e, wBin_e, wCons_e, wCall0, wVar, wC, List.getElem?_cons_zero, List.getElem?_cons_succ, bind_ok, consK, wNil, consK2, g1, a4, binK, testK_e, st_ok, ifK, wNext, Bool.false_eq_true, if_false]
  rw [hL19]
  exact ⟨f3, R3 ++ [.lst (os.map encI)], _, _, _, _, _, _, _, _, _, rfl, F3⟩
theorem law_true (ns : List Int) (hl : ns.length ≤ 63) : out (m_law [.p (.scr (ns.map RB.P.int))] []) (fun d _ => d = .p (.bl true)) fun _ _ => False := by
  rw [m_law_e]
  unfold f_law
  obtain ⟨c, e1, F1⟩ := pen_ok hl
  obtain ⟨q, hq, q0, q1⟩ : ∃ q : Int, (8 : Int) + (if (ns.length : Int) < 8 then (ns.length : Int) else 8) = q ∧ 0 ≤ q ∧ q ≤ 16 := ⟨_, rfl, by split <;> omega, by split <;> omega⟩
  have iq := in62_of (i := q) (by omega) (by omega)
  obtain ⟨r', S', g1, f', R', z2, z3, z4, z5, z6, z7, z8, z9, z10, z11, rfl, F2, rfl⟩ := forF_inv (T := .nm 2) (f := f_law_B2) (fun j r S => ∃ (f : Cell) (R : Store) (y2 y3 y4 y5 y6 y7 y8 y9 y10 y11 : Option D), S = f :: R ∧ Fd (110 * j) f ∧ r = [some (.p (.scr (ns.map P.int))), some (.cell 0), y2, y3, y4, y5, y6, y7, y8, y9, y10, y11])
    (ds := rngD 0 q.toNat) (k := 0) (r := [some (.p (.scr (ns.map P.int))), some (.cell 0), none, none, none, none, none, none, none, none, none, none]) (S := [c])
    ⟨c, [], _, _, _, _, _, _, _, _, _, _, rfl, F1.le (by rw [rng_len]; omega), rfl⟩
    (fun d md j r S ⟨f, R, y2, y3, y4, y5, y6, y7, y8, y9, y10, y11, e1, hf, e2⟩ => by
      subst e1; subst e2
      obtain ⟨f', R', z3, z4, z5, z6, z7, z8, z9, z10, z11, t1, t2⟩ := turn_ok (R := R) (k := 110 * j) (x0 := some (.p (.scr (ns.map P.int)))) (x2 := some d) (x3 := y3) (x4 := y4) (x5 := y5) (x6 := y6) (x7 := y7) (x8 := y8) (x9 := y9) (x10 := y10) (x11 := y11) (hf.le (by omega))
      exact ⟨_, _, _, rfl, t1, f', R', _, _, _, _, _, _, _, _, _, _, rfl, t2, rfl⟩)
  have hL1 : f_law_L1 [some (.p (.scr (ns.map P.int))), none, none, none, none, none, none, none, none, none, none, none] [] = .nx [some (.p (.scr (ns.map P.int))), some (.cell 0), none, none, none, none, none, none, none, none, none, none] [c] := by
    unfold f_law_L1
    simp only [evs, List.drop_zero, List.drop_succ_cons, Option.map_some, Option.map_none, List.getElem?_cons_zero, List.getElem?_cons_succ, List.set_cons_zero, List.set_cons_succ, List.map_cons, List.map_nil, List.length_cons, List.length_nil, List.take_succ_cons, List.take_zero, if_true, if_false, eq_self, List.contains_cons, List.contains_nil, List.reverse_cons, List.reverse_nil, List.nil_append, List.cons_append, List.append_nil, List.lookup_cons, reduceCtorEq, ↓reduceIte, Nat.reduceAdd, Nat.reduceSub, Nat.reduceBEq, String.reduceBEq, String.reduceEq, Nat.reduceLeDiff, Nat.reduceLT, Int.reduceLT, Int.reduceLE, Int.reduceEq, Int.reduceToNat, Int.reducePow, Int.reduceAdd, Int.reduceSub, Int.reduceMul, Int.reduceNeg, Nat.reducePow, Int.reduceMod, Int.reduceDiv, Nat.reduceEqDiff, e1]
  have hL2 : f_law_L2 [some (.p (.scr (ns.map P.int))), some (.cell 0), none, none, none, none, none, none, none, none, none, none] [c] = .nx [some (.p (.scr (ns.map P.int))), some (.cell 0), z2, z3, z4, z5, z6, z7, z8, z9, z10, z11] (f' :: R') := by
    unfold f_law_L2
    simp only [evs, List.drop_zero, List.drop_succ_cons, Option.map_some, Option.map_none, List.getElem?_cons_zero, List.getElem?_cons_succ, List.set_cons_zero, List.set_cons_succ, List.map_cons, List.map_nil, List.length_cons, List.length_nil, List.take_succ_cons, List.take_zero, if_true, if_false, eq_self, List.contains_cons, List.contains_nil, List.reverse_cons, List.reverse_nil, List.nil_append, List.cons_append, List.append_nil, List.lookup_cons, reduceCtorEq, ↓reduceIte, Nat.reduceAdd, Nat.reduceSub, Nat.reduceBEq, String.reduceBEq, String.reduceEq, Nat.reduceLeDiff, Nat.reduceLT, Int.reduceLT, Int.reduceLE, Int.reduceEq, Int.reduceToNat, Int.reducePow, Int.reduceAdd, Int.reduceSub, Int.reduceMul, Int.reduceNeg, Nat.reducePow, Int.reduceMod, Int.reduceDiv, Nat.reduceEqDiff, List.length_map, hq, iq]
    exact g1
  rw [wSeq, hL1, seq_nx, wSeq, hL2, seq_nx]
  unfold f_law_L21
  have ww : ∀ r0 : Rho, r0.length = 12 → lcF (.nm 11) f_law_T21 f_law_E21 r0 ([P.non, .int 0, .bl true, .lst [.str (Str.ofString "+a")], .tup [.str (Str.ofString "+a")], .dK [] [], .lst []].map D.p) 0 (f' :: R') = .ok [] (f' :: R') := by
    intro r0 hr
    rw [lcF_pureM (F := D.p) (fun _ => false) (fun v => v) (fun v m => ?_) (by rw [sz]; decide)]
    · rfl
    · have tn := told_no m (f' :: R')
      have q1 := ne_same (v := .tup [.int 0, .int 0, .bl true]) (S := f' :: R') (by decide +kernel)
      have g : (r0.set 11 (some (D.p v)))[11]? = some (some (D.p v)) := by simp [hr]
      refine ⟨_, rfl, ?_, fun h => (by cases h)⟩
      unfold f_law_T21
      simp only [evs, List.drop_zero, List.drop_succ_cons, Option.map_some, Option.map_none, List.getElem?_cons_zero, List.getElem?_cons_succ, List.set_cons_zero, List.set_cons_succ, List.map_cons, List.map_nil, List.length_cons, List.length_nil, List.take_succ_cons, List.take_zero, if_true, if_false, eq_self, List.contains_cons, List.contains_nil, List.reverse_cons, List.reverse_nil, List.nil_append, List.cons_append, List.append_nil, List.lookup_cons, reduceCtorEq, ↓reduceIte, Nat.reduceAdd, Nat.reduceSub, Nat.reduceBEq, String.reduceBEq, String.reduceEq, Nat.reduceLeDiff, Nat.reduceLT, Int.reduceLT, Int.reduceLE, Int.reduceEq, Int.reduceToNat, Int.reducePow, Int.reduceAdd, Int.reduceSub, Int.reduceMul, Int.reduceNeg, Nat.reducePow, Int.reduceMod, Int.reduceDiv, Nat.reduceEqDiff, g, tn, q1]
  have en := eq_nil (xs := []) (S := f' :: R') rfl
  simp only [List.map_cons, List.map_nil] at ww
  simp only [evs, List.drop_zero, List.drop_succ_cons, Option.map_some, Option.map_none, List.getElem?_cons_zero, List.getElem?_cons_succ, List.set_cons_zero, List.set_cons_succ, List.map_cons, List.map_nil, List.length_cons, List.length_nil, List.take_succ_cons, List.take_zero, if_true, if_false, eq_self, List.contains_cons, List.contains_nil, List.reverse_cons, List.reverse_nil, List.nil_append, List.cons_append, List.append_nil, List.lookup_cons, reduceCtorEq, ↓reduceIte, Nat.reduceAdd, Nat.reduceSub, Nat.reduceBEq, String.reduceBEq, String.reduceEq, Nat.reduceLeDiff, Nat.reduceLT, Int.reduceLT, Int.reduceLE, Int.reduceEq, Int.reduceToNat, Int.reducePow, Int.reduceAdd, Int.reduceSub, Int.reduceMul, Int.reduceNeg, Nat.reducePow, Int.reduceMod, Int.reduceDiv, Nat.reduceEqDiff]
  rw [ww _ rfl]
  simp only [evs, List.drop_zero, List.drop_succ_cons, Option.map_some, Option.map_none, List.getElem?_cons_zero, List.getElem?_cons_succ, List.set_cons_zero, List.set_cons_succ, List.map_cons, List.map_nil, List.length_cons, List.length_nil, List.take_succ_cons, List.take_zero, if_true, if_false, eq_self, List.contains_cons, List.contains_nil, List.reverse_cons, List.reverse_nil, List.nil_append, List.cons_append, List.append_nil, List.lookup_cons, reduceCtorEq, ↓reduceIte, Nat.reduceAdd, Nat.reduceSub, Nat.reduceBEq, String.reduceBEq, String.reduceEq, Nat.reduceLeDiff, Nat.reduceLT, Int.reduceLT, Int.reduceLE, Int.reduceEq, Int.reduceToNat, Int.reducePow, Int.reduceAdd, Int.reduceSub, Int.reduceMul, Int.reduceNeg, Nat.reducePow, Int.reduceMod, Int.reduceDiv, Nat.reduceEqDiff, en]
  rfl
def top (i : Nat) : Stmt := PySem.Challenge.pw_rockbeds_k87_texts_of_orders.main.body.getD i (.Pass ⟨0, 0, 0, 0⟩)
abbrev s_is_name : Stmt := top 5
abbrev s_order_text : Stmt := top 8
abbrev s_item_in : Stmt := top 9
abbrev s_read_order : Stmt := top 10
abbrev s__law_pen : Stmt := top 12
abbrev s__law_draw : Stmt := top 13
abbrev s__law_pick : Stmt := top 14
abbrev s__law_names : Stmt := top 15
abbrev s__law_hidden : Stmt := top 16
abbrev s__law_is_name : Stmt := top 17
abbrev s__law_text_bent : Stmt := top 18
abbrev s__law_written : Stmt := top 19
abbrev s__law_order_in : Stmt := top 20
abbrev s__law_told : Stmt := top 21
abbrev s_law : Stmt := top 22
abbrev si_ParseError : Stmt := clsStmt (top 1) 0
/-- what the top leaves -/
structure Tx (G : Glob) (mg : Str → Option Value) (w : World) where
  a_is_name : Addr
  d_is_name : FuncData
  F_is_name : FunD G.K (Str.ofString "is_name") (Str.ofString "is_name") (defArgs s_is_name) (defBody s_is_name) (defScope s_is_name) [] [] a_is_name d_is_name
  g_is_name : mg (Str.ofString "is_name") = some (.ref a_is_name)
  a_order_text : Addr
  d_order_text : FuncData
  F_order_text : FunD G.K (Str.ofString "order_text") (Str.ofString "order_text") (defArgs s_order_text) (defBody s_order_text) (defScope s_order_text) [] [] a_order_text d_order_text
  g_order_text : mg (Str.ofString "order_text") = some (.ref a_order_text)
  a_item_in : Addr
  d_item_in : FuncData
  F_item_in : FunD G.K (Str.ofString "item_in") (Str.ofString "item_in") (defArgs s_item_in) (defBody s_item_in) (defScope s_item_in) [] [] a_item_in d_item_in
  g_item_in : mg (Str.ofString "item_in") = some (.ref a_item_in)
  a_read_order : Addr
  d_read_order : FuncData
  F_read_order : FunD G.K (Str.ofString "read_order") (Str.ofString "read_order") (defArgs s_read_order) (defBody s_read_order) (defScope s_read_order) [] [] a_read_order d_read_order
  g_read_order : mg (Str.ofString "read_order") = some (.ref a_read_order)
  a__law_pen : Addr
  d__law_pen : FuncData
  F__law_pen : FunD G.K (Str.ofString "_law_pen") (Str.ofString "_law_pen") (defArgs s__law_pen) (defBody s__law_pen) (defScope s__law_pen) [] [] a__law_pen d__law_pen
  g__law_pen : mg (Str.ofString "_law_pen") = some (.ref a__law_pen)
  a__law_draw : Addr
  d__law_draw : FuncData
  F__law_draw : FunD G.K (Str.ofString "_law_draw") (Str.ofString "_law_draw") (defArgs s__law_draw) (defBody s__law_draw) (defScope s__law_draw) [] [] a__law_draw d__law_draw
  g__law_draw : mg (Str.ofString "_law_draw") = some (.ref a__law_draw)
  a__law_pick : Addr
  d__law_pick : FuncData
  F__law_pick : FunD G.K (Str.ofString "_law_pick") (Str.ofString "_law_pick") (defArgs s__law_pick) (defBody s__law_pick) (defScope s__law_pick) [] [] a__law_pick d__law_pick
  g__law_pick : mg (Str.ofString "_law_pick") = some (.ref a__law_pick)
  a__law_names : Addr
  d__law_names : FuncData
  F__law_names : FunD G.K (Str.ofString "_law_names") (Str.ofString "_law_names") (defArgs s__law_names) (defBody s__law_names) (defScope s__law_names) [] [] a__law_names d__law_names
  g__law_names : mg (Str.ofString "_law_names") = some (.ref a__law_names)
  a__law_hidden : Addr
  d__law_hidden : FuncData
  F__law_hidden : FunD G.K (Str.ofString "_law_hidden") (Str.ofString "_law_hidden") (defArgs s__law_hidden) (defBody s__law_hidden) (defScope s__law_hidden) [] [] a__law_hidden d__law_hidden
  g__law_hidden : mg (Str.ofString "_law_hidden") = some (.ref a__law_hidden)
  a__law_is_name : Addr
  d__law_is_name : FuncData
  F__law_is_name : FunD G.K (Str.ofString "_law_is_name") (Str.ofString "_law_is_name") (defArgs s__law_is_name) (defBody s__law_is_name) (defScope s__law_is_name) [] [] a__law_is_name d__law_is_name
  g__law_is_name : mg (Str.ofString "_law_is_name") = some (.ref a__law_is_name)
  a__law_text_bent : Addr
  d__law_text_bent : FuncData
  F__law_text_bent : FunD G.K (Str.ofString "_law_text_bent") (Str.ofString "_law_text_bent") (defArgs s__law_text_bent) (defBody s__law_text_bent) (defScope s__law_text_bent) [] [] a__law_text_bent d__law_text_bent
  g__law_text_bent : mg (Str.ofString "_law_text_bent") = some (.ref a__law_text_bent)
  a__law_written : Addr
  d__law_written : FuncData
  F__law_written : FunD G.K (Str.ofString "_law_written") (Str.ofString "_law_written") (defArgs s__law_written) (defBody s__law_written) (defScope s__law_written) [] [] a__law_written d__law_written
  g__law_written : mg (Str.ofString "_law_written") = some (.ref a__law_written)
  a__law_order_in : Addr
  d__law_order_in : FuncData
  F__law_order_in : FunD G.K (Str.ofString "_law_order_in") (Str.ofString "_law_order_in") (defArgs s__law_order_in) (defBody s__law_order_in) (defScope s__law_order_in) [] [] a__law_order_in d__law_order_in
  g__law_order_in : mg (Str.ofString "_law_order_in") = some (.ref a__law_order_in)
  a__law_told : Addr
  d__law_told : FuncData
  F__law_told : FunD G.K (Str.ofString "_law_told") (Str.ofString "_law_told") (defArgs s__law_told) (defBody s__law_told) (defScope s__law_told) [] [] a__law_told d__law_told
  g__law_told : mg (Str.ofString "_law_told") = some (.ref a__law_told)
  a_law : Addr
  d_law : FuncData
  F_law : FunD G.K (Str.ofString "law") (Str.ofString "law") (defArgs s_law) (defBody s_law) (defScope s_law) [] [] a_law d_law
  g_law : mg (Str.ofString "law") = some (.ref a_law)
  x_ParseError : Addr
  i_ParseError : Addr
  di_ParseError : FuncData
  Fi_ParseError : FunD G.K (Str.ofString "__init__") (Str.ofString "ParseError.__init__") (defArgs si_ParseError) (defBody si_ParseError) (defScope si_ParseError) [] [] i_ParseError di_ParseError
  gx_ParseError : mg (Str.ofString "ParseError") = some (.ref x_ParseError)
  K_ParseError : ExK G.K x_ParseError i_ParseError [(Str.ofString "line"), (Str.ofString "word")]
  cl_ParseError : G.cls "ParseError" = some x_ParseError
  ie_ParseError : G.isE "ParseError" = true
  ex_ParseError : ∀ y C, G.cls y = some C → PySem.W.exmOne G.K (.ref C) (.ref x_ParseError) = some (exm_ParseError y)
  is_ValueError : IsT G G.K kinds (.type "ValueError") is_ValueError
  at_word : ∀ c ∈ cs_word, ∀ C, G.cls c = some C → AtC G G.K c C (Str.ofString "word")
  fs_word : ∀ c ∈ csp_word, ∀ C, G.cls c = some C → Cls G.K C ∧ NoAttr G.K C (Str.ofString "word")
  at_line : ∀ c ∈ cs_line, ∀ C, G.cls c = some C → AtC G G.K c C (Str.ofString "line")
  fs_line : ∀ c ∈ csp_line, ∀ C, G.cls c = some C → Cls G.K C ∧ NoAttr G.K C (Str.ofString "line")
  sys : KSys G.K
  b_ValueError : mg (Str.ofString "ValueError") = none
  b_abs : mg (Str.ofString "abs") = none
  b_all : mg (Str.ofString "all") = none
  b_enumerate : mg (Str.ofString "enumerate") = none
  b_int : mg (Str.ofString "int") = none
  b_isinstance : mg (Str.ofString "isinstance") = none
  b_len : mg (Str.ofString "len") = none
  b_list : mg (Str.ofString "list") = none
  b_min : mg (Str.ofString "min") = none
  b_range : mg (Str.ofString "range") = none
  b_repr : mg (Str.ofString "repr") = none
  b_str : mg (Str.ofString "str") = none
  b_tuple : mg (Str.ofString "tuple") = none
  x_SIGNS : Addr
  gd_SIGNS : mg (Str.ofString "SIGNS") = some (.ref x_SIGNS)
  tb_SIGNS : KTab G.K w x_SIGNS tab_SIGNS
  c_LETTERS : ∃ t, mg (Str.ofString "LETTERS") = some (.str (Str.ofString "abcdefghijklmnopqrstuvwxyz") t)
  c_LONGEST_NAME : ∃ t, mg (Str.ofString "LONGEST_NAME") = some (.int 8 t)
section
variable {G : Glob} {P : Program} {w : World} {mg : Str → Option Value} {base : Heap}
theorem sc_is_name : FnScope N_is_name ps_is_name (defScope s_is_name) := ⟨rfl, rfl, rfl, by decide +kernel, rfl, by decide +kernel, by decide +kernel⟩
theorem bi_is_name (T : Tx G mg w) : Binds G.K T.d_is_name ps_is_name [] := T.F_is_name.bindsN fun _ _ _ _ _ _ us hl => match us, hl with | [_], _ => rfl
theorem sc_order_text : FnScope N_order_text ps_order_text (defScope s_order_text) := ⟨rfl, rfl, rfl, by decide +kernel, rfl, by decide +kernel, by decide +kernel⟩
theorem bi_order_text (T : Tx G mg w) : Binds G.K T.d_order_text ps_order_text [] := T.F_order_text.bindsN fun _ _ _ _ _ _ us hl => match us, hl with | [_], _ => rfl
theorem sc_item_in : FnScope N_item_in ps_item_in (defScope s_item_in) := ⟨rfl, rfl, rfl, by decide +kernel, rfl, by decide +kernel, by decide +kernel⟩
theorem bi_item_in (T : Tx G mg w) : Binds G.K T.d_item_in ps_item_in [] := T.F_item_in.bindsN fun _ _ _ _ _ _ us hl => match us, hl with | [_], _ => rfl
theorem sc_read_order : FnScope N_read_order ps_read_order (defScope s_read_order) := ⟨rfl, rfl, rfl, by decide +kernel, rfl, by decide +kernel, by decide +kernel⟩
theorem bi_read_order (T : Tx G mg w) : Binds G.K T.d_read_order ps_read_order [] := T.F_read_order.bindsN fun _ _ _ _ _ _ us hl => match us, hl with | [_], _ => rfl
theorem sc__law_pen : FnScope N__law_pen ps__law_pen (defScope s__law_pen) := ⟨rfl, rfl, rfl, by decide +kernel, rfl, by decide +kernel, by decide +kernel⟩
theorem bi__law_pen (T : Tx G mg w) : Binds G.K T.d__law_pen ps__law_pen [] := T.F__law_pen.bindsN fun _ _ _ _ _ _ us hl => match us, hl with | [_], _ => rfl
theorem sc__law_draw : FnScope N__law_draw ps__law_draw (defScope s__law_draw) := ⟨rfl, rfl, rfl, by decide +kernel, rfl, by decide +kernel, by decide +kernel⟩
theorem bi__law_draw (T : Tx G mg w) : Binds G.K T.d__law_draw ps__law_draw [] := T.F__law_draw.bindsN fun _ _ _ _ _ _ us hl => match us, hl with | [_, _], _ => rfl
theorem sc__law_pick : FnScope N__law_pick ps__law_pick (defScope s__law_pick) := ⟨rfl, rfl, rfl, by decide +kernel, rfl, by decide +kernel, by decide +kernel⟩
theorem bi__law_pick (T : Tx G mg w) : Binds G.K T.d__law_pick ps__law_pick [] := T.F__law_pick.bindsN fun _ _ _ _ _ _ us hl => match us, hl with | [_, _], _ => rfl
theorem sc__law_names : FnScope N__law_names ps__law_names (defScope s__law_names) := ⟨rfl, rfl, rfl, by decide +kernel, rfl, by decide +kernel, by decide +kernel⟩
theorem bi__law_names (T : Tx G mg w) : Binds G.K T.d__law_names ps__law_names [] := T.F__law_names.bindsN fun _ _ _ _ _ _ us hl => match us, hl with | [_, _], _ => rfl
theorem sc__law_hidden : FnScope N__law_hidden ps__law_hidden (defScope s__law_hidden) := ⟨rfl, rfl, rfl, by decide +kernel, rfl, by decide +kernel, by decide +kernel⟩
theorem bi__law_hidden (T : Tx G mg w) : Binds G.K T.d__law_hidden ps__law_hidden [] := T.F__law_hidden.bindsN fun _ _ _ _ _ _ us hl => match us, hl with | [_, _], _ => rfl
theorem sc__law_is_name : FnScope N__law_is_name ps__law_is_name (defScope s__law_is_name) := ⟨rfl, rfl, rfl, by decide +kernel, rfl, by decide +kernel, by decide +kernel⟩
theorem bi__law_is_name (T : Tx G mg w) : Binds G.K T.d__law_is_name ps__law_is_name [] := T.F__law_is_name.bindsN fun _ _ _ _ _ _ us hl => match us, hl with | [_], _ => rfl
theorem sc__law_text_bent : FnScope N__law_text_bent ps__law_text_bent (defScope s__law_text_bent) := ⟨rfl, rfl, rfl, by decide +kernel, rfl, by decide +kernel, by decide +kernel⟩
theorem bi__law_text_bent (T : Tx G mg w) : Binds G.K T.d__law_text_bent ps__law_text_bent [] := T.F__law_text_bent.bindsN fun _ _ _ _ _ _ us hl => match us, hl with | [_, _], _ => rfl
theorem sc__law_written : FnScope N__law_written ps__law_written (defScope s__law_written) := ⟨rfl, rfl, rfl, by decide +kernel, rfl, by decide +kernel, by decide +kernel⟩
theorem bi__law_written (T : Tx G mg w) : Binds G.K T.d__law_written ps__law_written [] := T.F__law_written.bindsN fun _ _ _ _ _ _ us hl => match us, hl with | [_], _ => rfl
theorem sc__law_order_in : FnScope N__law_order_in ps__law_order_in (defScope s__law_order_in) := ⟨rfl, rfl, rfl, by decide +kernel, rfl, by decide +kernel, by decide +kernel⟩
theorem bi__law_order_in (T : Tx G mg w) : Binds G.K T.d__law_order_in ps__law_order_in [] := T.F__law_order_in.bindsN fun _ _ _ _ _ _ us hl => match us, hl with | [_], _ => rfl
theorem sc__law_told : FnScope N__law_told ps__law_told (defScope s__law_told) := ⟨rfl, rfl, rfl, by decide +kernel, rfl, by decide +kernel, by decide +kernel⟩
theorem bi__law_told (T : Tx G mg w) : Binds G.K T.d__law_told ps__law_told [] := T.F__law_told.bindsN fun _ _ _ _ _ _ us hl => match us, hl with | [_], _ => rfl
theorem sc_law : FnScope N_law ps_law (defScope s_law) := ⟨rfl, rfl, rfl, by decide +kernel, rfl, by decide +kernel, by decide +kernel⟩
theorem bi_law (T : Tx G mg w) : Binds G.K T.d_law ps_law [] := T.F_law.bindsN fun _ _ _ _ _ _ us hl => match us, hl with | [_], _ => rfl
abbrev psi_ParseError : List Str := [(Str.ofString "self"), (Str.ofString "line"), (Str.ofString "word")]
theorem sci_ParseError : FnScope psi_ParseError psi_ParseError (defScope si_ParseError) := ⟨rfl, rfl, rfl, by decide +kernel, rfl, by decide +kernel, by decide +kernel⟩
theorem bxi_ParseError (T : Tx G mg w) : Binds G.K T.di_ParseError psi_ParseError [] := T.Fi_ParseError.bindsN fun _ _ _ _ _ _ us hl => match us, hl with | [_, _, _], _ => rfl
theorem oki_ParseError (T : Tx G mg w) : FnOk P w G.K mg base (L2.CX P w) 1 T.i_ParseError T.di_ParseError psi_ParseError (spI G.K [(Str.ofString "line"), (Str.ofString "word")]) := ok_init2 T.Fi_ParseError sci_ParseError rfl rfl (Or.inl rfl) (Or.inl rfl) (Or.inl rfl)
theorem ok_is_name (T : Tx G mg w) : FnG G P w mg base 1 T.a_is_name T.d_is_name ps_is_name (spF m_is_name) :=
  fn_f (k := 0) (f := f_is_name) T.F_is_name sc_is_name (fun cdv A outer s H E C =>
    (rss_cons (rs_if (rw_or (rt_not (rt_val (re_callB (cl_isi (by rfl)) (by rfl) T.b_isinstance bo_isinstance (ra_cons (re_var 0) (ra_cons (re_ty (by rfl) T.b_str bo_str) ra_nil))))) (rw_or1 (rt_not (rt_chain ol_le ol_le re_int (re_callB (cl_len (by rfl)) (by rfl) T.b_len bo_len (ra_cons (re_var 0) ra_nil)) (re_gint (by rfl) T.c_LONGEST_NAME.choose_spec))))).rt (rss_one (rs_ret re_bl)) rss_nil)
      (rss_one (rs_ret (re_callB (cl_all (by rfl) (by rfl)) (by rfl) T.b_all bo_all (ra_cons (re_lc (own := [((Str.ofString "sign"), 1)]) (T := (.nm 1)) (by rfl) (by rfl) sc_is_name.nd (ri_seq (by rfl) (re_var 0)) (blkOk_by (own := [((Str.ofString "sign"), 1)]) (N := N_is_name) (sc := defScope s_is_name) (by decide +kernel)) (by decide) (fun s1 H1 a1 cl1 fp1 => (pg_name (i := 1) sc_is_name.nd (by rfl) (Or.inl (by rfl)))) (fun s1 H1 a1 cl1 fp1 => rts_nil) (fun s1 H1 a1 cl1 fp1 => (re_cmp ol_inS (re_var 1) (re_gstr (by rfl) T.c_LETTERS.choose_spec) (by rfl)))) ra_nil))))))
theorem ok_order_text (T : Tx G mg w) : FnG G P w mg base 1 T.a_order_text T.d_order_text ps_order_text (spF m_order_text) :=
  fn_f (k := 0) (f := f_order_text) T.F_order_text sc_order_text (fun cdv A outer s H E C =>
    (rss_one (rs_ret (re_join (by rfl) re_str (re_lc (own := [((Str.ofString "kind"), 1), ((Str.ofString "name"), 2)]) (T := (.tp [1, 2])) (by rfl) (by rfl) sc_order_text.nd (ri_seq (by rfl) (re_var 0)) (blkOk_by (own := [((Str.ofString "kind"), 1), ((Str.ofString "name"), 2)]) (N := N_order_text) (sc := defScope s_order_text) (by decide +kernel)) (by decide) (fun s1 H1 a1 cl1 fp1 => (pg_tup (by rfl) (pgs_cons (pg_name (i := 1) sc_order_text.nd (by rfl) (Or.inl (by rfl))) (pgs_cons (pg_name (i := 2) sc_order_text.nd (by rfl) (Or.inl (by rfl))) pgs_nil)))) (fun s1 H1 a1 cl1 fp1 => rts_nil) (fun s1 H1 a1 cl1 fp1 => (re_bin (ol_add (by rfl)) (re_tab T.tb_SIGNS (by rfl) T.gd_SIGNS (re_var 1)) (re_var 2))))))))
theorem ok_item_in (T : Tx G mg w) : FnG G P w mg base 2 T.a_item_in T.d_item_in ps_item_in (spF m_item_in) :=
  fn_f (k := 1) (f := f_item_in) T.F_item_in sc_item_in (fun cdv A outer s H E C =>
    (rss_cons (rs_setLc (i := 1) (own := [((Str.ofString "kind"), 2), ((Str.ofString "sign"), 3)]) (T := (.tp [2, 3])) (by rfl) (by rfl) sc_item_in.nd (by rfl) (by rfl) (sw_true (by rfl) (by rfl) (by rfl) (by decide +kernel)) (ri_tab T.tb_SIGNS (by rfl) T.gd_SIGNS) (blkOk_by (own := [((Str.ofString "kind"), 2), ((Str.ofString "sign"), 3)]) (N := N_item_in) (sc := defScope s_item_in) (by decide +kernel)) (by decide) (fun s1 H1 a1 cl1 fp1 => (pg_tup (by rfl) (pgs_cons (pg_name (i := 2) sc_item_in.nd (by rfl) (Or.inl (by rfl))) (pgs_cons (pg_name (i := 3) sc_item_in.nd (by rfl) (Or.inl (by rfl))) pgs_nil)))) (fun s1 H1 a1 cl1 fp1 => have C1 := C.blk s1 H1 _ _ fp1; (rts_one (rt_cmp (ol_eq (by rfl) C1.hu) (re_slice (by rfl) (re_var 0) ro_none (ro_some re_int)) (re_var 3) (nomark _)))) (fun s1 H1 a1 cl1 fp1 => (re_var 2)))
      (rss_one (rs_ret (re_ifx (rw_and (rt_cmp (ol_ne (by rfl) C.hu) (re_var 1) (re_lst ra_nil) (nomark _)) (rw_and1 (rt_val (re_callN C (ok_is_name T) (by decide) (by rfl) T.g_is_name T.F_is_name.kp (bi_is_name T) (ra_cons (re_slice (by rfl) (re_var 0) (ro_some re_int) ro_none) ra_nil))))).rt (re_tup (ra_cons (re_ix (il_ix (by rfl)) (re_var 1) re_int) (ra_cons (re_slice (by rfl) (re_var 0) (ro_some re_int) ro_none) ra_nil))) re_non)))))
theorem ok_read_order (T : Tx G mg w) : FnG G P w mg base 3 T.a_read_order T.d_read_order ps_read_order (spF m_read_order) :=
  fn_f (k := 2) (f := f_read_order) T.F_read_order sc_read_order (fun cdv A outer s H E C =>
    (rss_cons (rs_if (rt_not (rt_val (re_callB (cl_isi (by rfl)) (by rfl) T.b_isinstance bo_isinstance (ra_cons (re_var 0) (ra_cons (re_ty (by rfl) T.b_str bo_str) ra_nil))))) (rss_one (rs_raise (k := 1) C T.K_ParseError (oki_ParseError T) (by decide) (bxi_ParseError T) (by rfl) T.gx_ParseError T.cl_ParseError T.ie_ParseError (ra_cons re_int (ra_cons re_int ra_nil)))) rss_nil)
      (rss_cons (rs_set (i := 1) sc_read_order.nd (by rfl) (Or.inl (by rfl)) (re_newL ra_nil))
      (rss_cons (rs_for (T := (.tp [2, 3])) (by rfl) (passes_of rfl) (by rfl) (ri_enum (by rfl) T.b_enumerate (ra_cons (re_ifx (rt_cmp (ol_ne (by rfl) C.hu) (re_var 0) re_str (nomark _)) (re_bm (by rfl) F.plainAttrs_str F.slot_str_split F.type_str_split (by decide) ml_split (re_var 0) (ra_cons re_str ra_nil)) (re_lst ra_nil)) ra_nil)) (pg_tup (by rfl) (pgs_cons (pg_name (i := 2) sc_read_order.nd (by rfl) (Or.inl (by rfl))) (pgs_cons (pg_name (i := 3) sc_read_order.nd (by rfl) (Or.inl (by rfl))) pgs_nil))) (rss_cons (rs_set (i := 4) sc_read_order.nd (by rfl) (Or.inl (by rfl)) (re_callN C (ok_item_in T) (by decide) (by rfl) T.g_item_in T.F_item_in.kp (bi_item_in T) (ra_cons (re_var 3) ra_nil)))
      (rss_cons (rs_if (rw_or (rt_cmp ol_isN (re_var 4) re_non (nomark _)) (rw_or1 (rt_cmp (ol_inD (by rfl) C.h65) (re_var 4) (re_var 1) (by rfl)))).rt (rss_one (rs_raise (k := 1) C T.K_ParseError (oki_ParseError T) (by decide) (bxi_ParseError T) (by rfl) T.gx_ParseError T.cl_ParseError T.ie_ParseError (ra_cons re_int (ra_cons (re_var 2) ra_nil)))) rss_nil)
      (rss_one (rs_expr (re_bm (by rfl) F.plainAttrs_list F.slot_list_append F.type_list_append (by decide) ml_append (re_var 1) (ra_cons (re_var 4) ra_nil)))))))
      (rss_one (rs_ret (re_var 1)))))))
theorem ok__law_pen (T : Tx G mg w) : FnG G P w mg base 1 T.a__law_pen T.d__law_pen ps__law_pen (spF m__law_pen) :=
  fn_f (k := 0) (f := f__law_pen) T.F__law_pen sc__law_pen (fun cdv A outer s H E C =>
    (rss_one (rs_ret (re_dictC (rp_cons re_str (re_callTy (cl_list (by rfl)) (by rfl) T.b_list bo_list (ra_cons (re_slice (by rfl) (re_var 0) ro_none (ro_some re_int)) ra_nil)) (rp_cons re_str re_int (rp_cons re_str re_int rp_nil))) (by rfl) (by rfl) (fun z => by cases z) (by decide)))))
theorem ok__law_draw (T : Tx G mg w) : FnG G P w mg base 1 T.a__law_draw T.d__law_draw ps__law_draw (spF m__law_draw) :=
  fn_f (k := 0) (f := f__law_draw) T.F__law_draw sc__law_draw (fun cdv A outer s H E C =>
    (rss_cons (rs_if (rt_cmp ol_gt (re_dget C.h1 (re_var 0) re_str) re_int (nomark _)) (rss_cons (rs_set (i := 5) sc__law_draw.nd (by rfl) (Or.inl (by rfl)) (re_bin ol_mod (re_callTy cl_int (by rfl) T.b_int bo_int (ra_cons (re_dget C.h1 (re_var 0) re_str) ra_nil)) (re_var 1)))
      (rss_cons (rs_dput C.h1 (re_var 0) re_str (re_bin ol_fdiv (re_dget C.h1 (re_var 0) re_str) (re_var 1)))
      (rss_one (rs_ret (re_var 5))))) rss_nil)
      (rss_cons (rs_set (i := 2) sc__law_draw.nd (by rfl) (Or.inl (by rfl)) (re_dget C.h1 (re_var 0) re_str))
      (rss_cons (rs_dput C.h1 (re_var 0) re_str (re_bin (ol_add (by rfl)) (re_var 2) re_int))
      (rss_cons (rs_set (i := 3) sc__law_draw.nd (by rfl) (Or.inl (by rfl)) (re_bin (ol_add (by rfl)) (re_bin ol_mul re_int (re_var 2)) re_int))
      (rss_cons (rs_if (rt_cmp (ol_ne (by rfl) C.hu) (re_dget C.h1 (re_var 0) re_str) (re_lst ra_nil) (nomark _)) (rss_one (rs_set (i := 3) sc__law_draw.nd (by rfl) (Or.inl (by rfl)) (re_ix (il_ix (by rfl)) (re_dget C.h1 (re_var 0) re_str) (re_bin ol_mod (re_callTy cl_int (by rfl) T.b_int bo_int (ra_cons (re_var 2) ra_nil)) (re_callB (cl_len (by rfl)) (by rfl) T.b_len bo_len (ra_cons (re_dget C.h1 (re_var 0) re_str) ra_nil)))))) rss_nil)
      (rss_cons (rs_if (rw_and (rt_cmp ol_lt (re_var 2) (re_callB (cl_len (by rfl)) (by rfl) T.b_len bo_len (ra_cons (re_dget C.h1 (re_var 0) re_str) ra_nil)) (nomark _)) (rw_and1 (rt_cmp ol_ge (re_callB cl_abs (by rfl) T.b_abs bo_abs (ra_cons (re_var 3) ra_nil)) (re_bin ol_pow re_int re_int) (nomark _)))).rt (rss_cons (rs_dput C.h1 (re_var 0) re_str (re_bin ol_fdiv (re_bin ol_sub (re_callB cl_abs (by rfl) T.b_abs bo_abs (ra_cons (re_var 3) ra_nil)) (re_bin ol_pow re_int re_int)) (re_var 1)))
      (rss_one (rs_ret (re_bin ol_mod (re_bin ol_sub (re_callB cl_abs (by rfl) T.b_abs bo_abs (ra_cons (re_var 3) ra_nil)) (re_bin ol_pow re_int re_int)) (re_var 1))))) rss_nil)
      (rss_cons (rs_set (i := 4) sc__law_draw.nd (by rfl) (Or.inl (by rfl)) (re_bin (ol_add (by rfl)) (re_bin ol_mul (re_bin ol_mod (re_callTy cl_int (by rfl) T.b_int bo_int (ra_cons (re_var 3) ra_nil)) re_int) re_int) (re_bin ol_mul (re_bin ol_mul re_int (re_var 2)) (re_var 2))))
      (rss_cons (rs_set (i := 4) sc__law_draw.nd (by rfl) (Or.inl (by rfl)) (re_bin ol_mod (re_callTy cl_int (by rfl) T.b_int bo_int (ra_cons (re_bin (ol_add (by rfl)) (re_bin (ol_add (by rfl)) (re_var 4) (re_bin ol_mul re_int (re_var 2))) re_int) ra_nil)) re_int))
      (rss_cons (rs_par2 (i := 6) (j := 7) (by rfl) sc__law_draw.nd (by rfl) (by rfl) (by decide) (by rfl) (by rfl) (ra_cons re_int (ra_cons (re_var 1) ra_nil)))
      (rss_cons (rs_while (passes_of rfl) (rt_cmp ol_gt (re_var 7) re_int (nomark _)) (rss_cons (rs_set (i := 4) sc__law_draw.nd (by rfl) (Or.inl (by rfl)) (re_bin ol_mod (re_callTy cl_int (by rfl) T.b_int bo_int (ra_cons (re_bin (ol_add (by rfl)) (re_bin (ol_add (by rfl)) (re_bin (ol_add (by rfl)) (re_bin ol_mul (re_var 4) (re_var 4)) (re_bin ol_mul re_int (re_var 4))) (re_bin ol_mul re_int (re_var 2))) re_int) ra_nil)) re_int))
      (rss_cons (rs_set (i := 6) sc__law_draw.nd (by rfl) (Or.inl (by rfl)) (re_bin (ol_add (by rfl)) (re_bin ol_mul (re_var 6) re_int) (re_bin ol_fdiv (re_bin ol_mod (re_callTy cl_int (by rfl) T.b_int bo_int (ra_cons (re_bin ol_mul (re_var 4) (re_bin (ol_add (by rfl)) (re_var 4) re_int)) ra_nil)) re_int) re_int)))
      (rss_one (rs_set (i := 7) sc__law_draw.nd (by rfl) (Or.inl (by rfl)) (re_bin ol_fdiv (re_var 7) re_int))))))
      (rss_one (rs_ret (re_bin ol_mod (re_callTy cl_int (by rfl) T.b_int bo_int (ra_cons (re_var 6) ra_nil)) (re_var 1)))))))))))))))
theorem ok__law_pick (T : Tx G mg w) : FnG G P w mg base 2 T.a__law_pick T.d__law_pick ps__law_pick (spF m__law_pick) :=
  fn_f (k := 1) (f := f__law_pick) T.F__law_pick sc__law_pick (fun cdv A outer s H E C =>
    (rss_one (rs_ret (re_ix (il_ix (by rfl)) (re_var 1) (re_callN C (ok__law_draw T) (by decide) (by rfl) T.g__law_draw T.F__law_draw.kp (bi__law_draw T) (ra_cons (re_var 0) (ra_cons (re_callB (cl_len (by rfl)) (by rfl) T.b_len bo_len (ra_cons (re_var 1) ra_nil)) ra_nil)))))))
theorem ok__law_names (T : Tx G mg w) : FnG G P w mg base 3 T.a__law_names T.d__law_names ps__law_names (spF m__law_names) :=
  fn_f (k := 2) (f := f__law_names) T.F__law_names sc__law_names (fun cdv A outer s H E C =>
    (rss_cons (rs_set (i := 2) sc__law_names.nd (by rfl) (Or.inr (by rfl)) re_str)
      (rss_cons (rs_set (i := 3) sc__law_names.nd (by rfl) (Or.inl (by rfl)) (re_join (by rfl) re_str (re_lc (own := [((Str.ofString "_law_k"), 4)]) (T := (.nm 4)) (by rfl) (by rfl) sc__law_names.nd (ri_range1 (by rfl) T.b_range (re_callN C (ok__law_draw T) (by decide) (by rfl) T.g__law_draw T.F__law_draw.kp (bi__law_draw T) (ra_cons (re_var 0) (ra_cons re_int ra_nil)))) (blkOk_by (own := [((Str.ofString "_law_k"), 4)]) (N := N__law_names) (sc := defScope s__law_names) (by decide +kernel)) (by decide) (fun s1 H1 a1 cl1 fp1 => (pg_name (i := 4) sc__law_names.nd (by rfl) (Or.inl (by rfl)))) (fun s1 H1 a1 cl1 fp1 => rts_nil) (fun s1 H1 a1 cl1 fp1 => have C1 := C.blk s1 H1 _ _ fp1; (re_callN C1 (ok__law_pick T) (by decide) (by rfl) T.g__law_pick T.F__law_pick.kp (bi__law_pick T) (ra_cons (re_var 0) (ra_cons (re_var 2) ra_nil)))))))
      (rss_cons (rs_par3 (i := 5) (j := 6) (l := 7) (by rfl) sc__law_names.nd (by rfl) (by rfl) (by rfl) (by decide) (by decide) (by decide) (by rfl) (by rfl) (by rfl) (ra_cons (re_callN C (ok__law_draw T) (by decide) (by rfl) T.g__law_draw T.F__law_draw.kp (bi__law_draw T) (ra_cons (re_var 0) (ra_cons (re_bin (ol_add (by rfl)) (re_callB (cl_len (by rfl)) (by rfl) T.b_len bo_len (ra_cons (re_var 3) ra_nil)) re_int) ra_nil))) (ra_cons (re_callN C (ok__law_draw T) (by decide) (by rfl) T.g__law_draw T.F__law_draw.kp (bi__law_draw T) (ra_cons (re_var 0) (ra_cons re_int ra_nil))) (ra_cons (re_callN C (ok__law_draw T) (by decide) (by rfl) T.g__law_draw T.F__law_draw.kp (bi__law_draw T) (ra_cons (re_var 0) (ra_cons re_int ra_nil))) ra_nil))))
      (rss_cons (rs_par2 (i := 8) (j := 9) (by rfl) sc__law_names.nd (by rfl) (by rfl) (by decide) (by rfl) (by rfl) (ra_cons (re_callN C (ok__law_pick T) (by decide) (by rfl) T.g__law_pick T.F__law_pick.kp (bi__law_pick T) (ra_cons (re_var 0) (ra_cons (re_lst (ra_cons re_int (ra_cons re_int (ra_cons re_int (ra_cons re_int (ra_cons re_int (ra_cons re_int (ra_cons re_int (ra_cons re_int ra_nil))))))))) ra_nil))) (ra_cons (re_newL ra_nil) ra_nil)))
      (rss_cons (rs_for (T := (.nm 4)) (by rfl) (passes_of rfl) (by rfl) (ri_range1 (by rfl) T.b_range (re_var 1)) (pg_name (i := 4) sc__law_names.nd (by rfl) (Or.inl (by rfl))) (rss_cons (rs_set (i := 10) sc__law_names.nd (by rfl) (Or.inl (by rfl)) (re_ifx (rt_cmp (ol_eq (by rfl) C.hu) (re_var 7) re_int (nomark _)) (re_slice (by rfl) (re_var 3) (ro_some (re_var 5)) ro_none) (re_slice (by rfl) (re_slice (by rfl) (re_var 3) (ro_some (re_var 5)) ro_none) ro_none (ro_some (re_bin ol_mod (re_callTy cl_int (by rfl) T.b_int bo_int (ra_cons (re_var 4) ra_nil)) re_int)))))
      (rss_one (rs_expr (re_bm (by rfl) F.plainAttrs_list F.slot_list_append F.type_list_append (by decide) ml_append (re_var 9) (ra_cons (re_bin (ol_add (by rfl)) (re_bin (ol_add (by rfl)) (re_slice (by rfl) (re_var 3) ro_none (ro_some (re_var 5))) (re_ix (il_ix (by rfl)) (re_var 2) (re_bin ol_mod (re_callTy cl_int (by rfl) T.b_int bo_int (ra_cons (re_bin (ol_add (by rfl)) (re_var 6) (re_bin ol_mul (re_var 8) (re_var 4))) ra_nil)) re_int))) (re_var 10)) ra_nil))))))
      (rss_one (rs_ret (re_frz (re_var 9))))))))))
theorem ok__law_hidden (T : Tx G mg w) : FnG G P w mg base 4 T.a__law_hidden T.d__law_hidden ps__law_hidden (spF m__law_hidden) :=
  fn_f (k := 3) (f := f__law_hidden) T.F__law_hidden sc__law_hidden (fun cdv A outer s H E C =>
    (rss_cons (rs_par2 (i := 3) (j := 4) (by rfl) sc__law_hidden.nd (by rfl) (by rfl) (by decide) (by rfl) (by rfl) (ra_cons (re_callN C (ok__law_names T) (by decide) (by rfl) T.g__law_names T.F__law_names.kp (bi__law_names T) (ra_cons (re_var 0) (ra_cons re_int ra_nil))) (ra_cons (re_newL ra_nil) ra_nil)))
      (rss_cons (rs_for (T := (.nm 2)) (by rfl) (passes_of rfl) (by rfl) (ri_range1 (by rfl) T.b_range (re_var 1)) (pg_name (i := 2) sc__law_hidden.nd (by rfl) (Or.inl (by rfl))) (rss_cons (rs_set (i := 5) sc__law_hidden.nd (by rfl) (Or.inl (by rfl)) (re_callN C (ok__law_pick T) (by decide) (by rfl) T.g__law_pick T.F__law_pick.kp (bi__law_pick T) (ra_cons (re_var 0) (ra_cons (re_lst (ra_cons re_str (ra_cons re_str (ra_cons re_str (ra_cons re_str (ra_cons re_str (ra_cons re_str ra_nil))))))) ra_nil))))
      (rss_cons (rs_expr (re_bm (by rfl) F.plainAttrs_list F.slot_list_append F.type_list_append (by decide) ml_append (re_var 4) (ra_cons (re_tup (ra_cons (re_var 5) (ra_cons (re_ix (il_ix (by rfl)) (re_var 3) (re_var 2)) ra_nil))) ra_nil)))
      (rss_one (rs_if (rw_and (rt_cmp (ol_eq (by rfl) C.hu) (re_var 5) re_str (nomark _)) (rw_and (rt_cmp (ol_eq (by rfl) C.hu) (re_callN C (ok__law_draw T) (by decide) (by rfl) T.g__law_draw T.F__law_draw.kp (bi__law_draw T) (ra_cons (re_var 0) (ra_cons re_int ra_nil))) re_int (nomark _)) (rw_and1 (rt_cmp (ol_inD (by rfl) C.h65) (re_tup (ra_cons re_str (ra_cons (re_ix (il_ix (by rfl)) (re_var 3) (re_bin ol_sub (re_var 2) re_int)) ra_nil))) (re_var 4) (by rfl))))).rt (rss_one (rs_lput (re_var 4) (re_un ul_neg re_int) (re_tup (ra_cons re_str (ra_cons (re_ix (il_ix (by rfl)) (re_var 3) (re_bin ol_sub (re_var 2) re_int)) ra_nil))))) rss_nil)))))
      (rss_one (rs_ret (re_frz (re_var 4)))))))
theorem ok__law_is_name (T : Tx G mg w) : FnG G P w mg base 1 T.a__law_is_name T.d__law_is_name ps__law_is_name (spF m__law_is_name) :=
  fn_f (k := 0) (f := f__law_is_name) T.F__law_is_name sc__law_is_name (fun cdv A outer s H E C =>
    (rss_one (rs_ret (re_and (re_chain ol_lt ol_lt re_int (re_callB (cl_len (by rfl)) (by rfl) T.b_len bo_len (ra_cons (re_var 0) ra_nil)) re_int) (re_one (re_cmp (ol_eq (by rfl) C.hu) (re_lc (own := [((Str.ofString "_law_sign"), 1)]) (T := (.nm 1)) (by rfl) (by rfl) sc__law_is_name.nd (ri_seq (by rfl) (re_var 0)) (blkOk_by (own := [((Str.ofString "_law_sign"), 1)]) (N := N__law_is_name) (sc := defScope s__law_is_name) (by decide +kernel)) (by decide) (fun s1 H1 a1 cl1 fp1 => (pg_name (i := 1) sc__law_is_name.nd (by rfl) (Or.inl (by rfl)))) (fun s1 H1 a1 cl1 fp1 => (rts_one (rt_cmp ol_notInS (re_var 1) re_str (by rfl)))) (fun s1 H1 a1 cl1 fp1 => (re_var 1))) (re_lst ra_nil) (nomark _)))))))
theorem ok__law_text_bent (T : Tx G mg w) : FnG G P w mg base 3 T.a__law_text_bent T.d__law_text_bent ps__law_text_bent (spF m__law_text_bent) :=
  fn_f (k := 2) (f := f__law_text_bent) T.F__law_text_bent sc__law_text_bent (fun cdv A outer s H E C =>
    (rss_cons (rs_par2 (i := 7) (j := 8) (by rfl) sc__law_text_bent.nd (by rfl) (by rfl) (by decide) (by rfl) (by rfl) (ra_cons (re_callN C (ok__law_draw T) (by decide) (by rfl) T.g__law_draw T.F__law_draw.kp (bi__law_draw T) (ra_cons (re_var 0) (ra_cons (re_bin (ol_add (by rfl)) (re_callB (cl_len (by rfl)) (by rfl) T.b_len bo_len (ra_cons (re_var 1) ra_nil)) re_int) ra_nil))) (ra_cons (re_callN C (ok__law_draw T) (by decide) (by rfl) T.g__law_draw T.F__law_draw.kp (bi__law_draw T) (ra_cons (re_var 0) (ra_cons re_int ra_nil))) ra_nil)))
      (rss_cons (rs_set (i := 2) sc__law_text_bent.nd (by rfl) (Or.inl (by rfl)) (re_callN C (ok__law_pick T) (by decide) (by rfl) T.g__law_pick T.F__law_pick.kp (bi__law_pick T) (ra_cons (re_var 0) (ra_cons (re_bin (ol_add (by rfl)) (re_callTy (cl_listS (by rfl)) (by rfl) T.b_list bo_list (ra_cons re_str ra_nil)) (re_lst (ra_cons re_str (ra_cons re_str (ra_cons re_str (ra_cons re_str (ra_cons re_str (ra_cons re_str (ra_cons re_str (ra_cons re_str (ra_cons re_str ra_nil))))))))))) ra_nil))))
      (rss_cons (rs_if (rt_cmp ol_lt (re_var 8) re_int (nomark _)) (rss_one (rs_ret (re_bin (ol_add (by rfl)) (re_bin (ol_add (by rfl)) (re_slice (by rfl) (re_var 1) ro_none (ro_some (re_var 7))) (re_var 2)) (re_slice (by rfl) (re_var 1) (ro_some (re_bin (ol_add (by rfl)) (re_var 7) (re_var 8))) ro_none)))) rss_nil)
      (rss_cons (rs_if (rt_cmp (ol_eq (by rfl) C.hu) (re_var 8) re_int (nomark _)) (rss_one (rs_ret (re_bin (ol_add (by rfl)) (re_slice (by rfl) (re_var 1) ro_none (ro_some (re_var 7))) (re_slice (by rfl) (re_var 1) (ro_some (re_bin (ol_add (by rfl)) (re_var 7) re_int)) ro_none)))) rss_nil)
      (rss_cons (rs_if (rt_cmp (ol_eq (by rfl) C.hu) (re_var 8) re_int (nomark _)) (rss_one (rs_ret (re_bin (ol_add (by rfl)) (re_bin (ol_add (by rfl)) (re_slice (by rfl) (re_var 1) ro_none (ro_some (re_var 7))) (re_slice (by rfl) (re_var 1) (ro_some (re_var 7)) (ro_some (re_bin (ol_add (by rfl)) (re_var 7) re_int)))) (re_slice (by rfl) (re_var 1) (ro_some (re_var 7)) ro_none)))) rss_nil)
      (rss_cons (rs_set (i := 3) sc__law_text_bent.nd (by rfl) (Or.inl (by rfl)) (re_ifx (rt_cmp ol_lt (re_var 8) re_int (nomark _)) re_str re_str))
      (rss_cons (rs_set (i := 4) sc__law_text_bent.nd (by rfl) (Or.inl (by rfl)) (re_bm (by rfl) F.plainAttrs_str F.slot_str_split F.type_str_split (by decide) ml_split (re_var 1) (ra_cons (re_var 3) ra_nil)))
      (rss_cons (rs_set (i := 5) sc__law_text_bent.nd (by rfl) (Or.inl (by rfl)) (re_callN C (ok__law_draw T) (by decide) (by rfl) T.g__law_draw T.F__law_draw.kp (bi__law_draw T) (ra_cons (re_var 0) (ra_cons (re_callB (cl_len (by rfl)) (by rfl) T.b_len bo_len (ra_cons (re_var 4) ra_nil)) ra_nil))))
      (rss_cons (rs_set (i := 6) sc__law_text_bent.nd (by rfl) (Or.inl (by rfl)) (re_lst (ra_cons (re_bin (ol_add (by rfl)) (re_slice (by rfl) (re_var 4) ro_none (ro_some (re_var 5))) (re_slice (by rfl) (re_var 4) (ro_some (re_bin (ol_add (by rfl)) (re_var 5) re_int)) ro_none)) (ra_cons (re_bin (ol_add (by rfl)) (re_slice (by rfl) (re_var 4) ro_none (ro_some (re_bin (ol_add (by rfl)) (re_var 5) re_int))) (re_slice (by rfl) (re_var 4) (ro_some (re_var 5)) ro_none)) ra_nil))))
      (rss_cons (rs_set (i := 6) sc__law_text_bent.nd (by rfl) (Or.inl (by rfl)) (re_bin (ol_add (by rfl)) (re_var 6) (re_lst (ra_cons (re_bin (ol_add (by rfl)) (re_bin (ol_add (by rfl)) (re_slice (by rfl) (re_var 4) ro_none (ro_some (re_var 5))) (re_revL (by rfl) (re_slice (by rfl) (re_var 4) (ro_some (re_var 5)) (ro_some (re_bin (ol_add (by rfl)) (re_var 5) re_int))))) (re_slice (by rfl) (re_var 4) (ro_some (re_bin (ol_add (by rfl)) (re_var 5) re_int)) ro_none)) (ra_cons (re_bin (ol_add (by rfl)) (re_bin (ol_add (by rfl)) (re_slice (by rfl) (re_var 4) ro_none (ro_some (re_var 5))) (re_lst (ra_cons (re_var 2) ra_nil))) (re_slice (by rfl) (re_var 4) (ro_some (re_var 5)) ro_none)) ra_nil)))))
      (rss_one (rs_ret (re_join (by rfl) (re_var 3) (re_callN C (ok__law_pick T) (by decide) (by rfl) T.g__law_pick T.F__law_pick.kp (bi__law_pick T) (ra_cons (re_var 0) (ra_cons (re_var 6) ra_nil)))))))))))))))))
theorem ok__law_written (T : Tx G mg w) : FnG G P w mg base 1 T.a__law_written T.d__law_written ps__law_written (spF m__law_written) :=
  fn_f (k := 0) (f := f__law_written) T.F__law_written sc__law_written (fun cdv A outer s H E C =>
    (rss_one (rs_ret (re_join (by rfl) re_str (re_lc (own := [((Str.ofString "_law_kind"), 1), ((Str.ofString "_law_name"), 2)]) (T := (.tp [1, 2])) (by rfl) (by rfl) sc__law_written.nd (ri_seq (by rfl) (re_var 0)) (blkOk_by (own := [((Str.ofString "_law_kind"), 1), ((Str.ofString "_law_name"), 2)]) (N := N__law_written) (sc := defScope s__law_written) (by decide +kernel)) (by decide) (fun s1 H1 a1 cl1 fp1 => (pg_tup (by rfl) (pgs_cons (pg_name (i := 1) sc__law_written.nd (by rfl) (Or.inl (by rfl))) (pgs_cons (pg_name (i := 2) sc__law_written.nd (by rfl) (Or.inl (by rfl))) pgs_nil)))) (fun s1 H1 a1 cl1 fp1 => rts_nil) (fun s1 H1 a1 cl1 fp1 => have C1 := C.blk s1 H1 _ _ fp1; (re_bin (ol_add (by rfl)) (re_dget C1.h1 (re_dict (rp_cons re_str re_str (rp_cons re_str re_str (rp_cons re_str re_str rp_nil))) (by rfl) (by rfl) (fun z => by cases z) (by decide)) (re_var 1)) (re_var 2))))))))
theorem ok__law_order_in (T : Tx G mg w) : FnG G P w mg base 2 T.a__law_order_in T.d__law_order_in ps__law_order_in (spF m__law_order_in) :=
  fn_f (k := 1) (f := f__law_order_in) T.F__law_order_in sc__law_order_in (fun cdv A outer s H E C =>
    (rss_cons (rs_set (i := 1) sc__law_order_in.nd (by rfl) (Or.inl (by rfl)) (re_newL ra_nil))
      (rss_cons (rs_for (T := (.tp [2, 3])) (by rfl) (passes_of rfl) (by rfl) (ri_enum (by rfl) T.b_enumerate (ra_cons (re_ifx (rt_cmp (ol_eq (by rfl) C.hu) (re_var 0) re_str (nomark _)) (re_lst ra_nil) (re_bm (by rfl) F.plainAttrs_str F.slot_str_split F.type_str_split (by decide) ml_split (re_var 0) (ra_cons re_str ra_nil))) ra_nil)) (pg_tup (by rfl) (pgs_cons (pg_name (i := 2) sc__law_order_in.nd (by rfl) (Or.inl (by rfl))) (pgs_cons (pg_name (i := 3) sc__law_order_in.nd (by rfl) (Or.inl (by rfl))) pgs_nil))) (rss_cons (rs_set (i := 4) sc__law_order_in.nd (by rfl) (Or.inl (by rfl)) (re_get2 C.h1 (re_dict (rp_cons re_str re_str (rp_cons re_str re_str (rp_cons re_str re_str rp_nil))) (by rfl) (by rfl) (fun z => by cases z) (by decide)) (re_slice (by rfl) (re_var 3) ro_none (ro_some re_int)) re_non ⟨by rfl, by rfl, by rfl, by rfl⟩))
      (rss_cons (rs_if (rw_or (rt_cmp ol_isN (re_var 4) re_non (nomark _)) (rw_or (rt_not (rt_val (re_callN C (ok__law_is_name T) (by decide) (by rfl) T.g__law_is_name T.F__law_is_name.kp (bi__law_is_name T) (ra_cons (re_slice (by rfl) (re_var 3) (ro_some re_int) ro_none) ra_nil)))) (rw_or1 (rt_cmp (ol_inD (by rfl) C.h65) (re_tup (ra_cons (re_var 4) (ra_cons (re_slice (by rfl) (re_var 3) (ro_some re_int) ro_none) ra_nil))) (re_var 1) (by rfl))))).rt (rss_one (rs_ret (re_var 2))) rss_nil)
      (rss_one (rs_expr (re_bm (by rfl) F.plainAttrs_list F.slot_list_append F.type_list_append (by decide) ml_append (re_var 1) (ra_cons (re_tup (ra_cons (re_var 4) (ra_cons (re_slice (by rfl) (re_var 3) (ro_some re_int) ro_none) ra_nil))) ra_nil)))))))
      (rss_one (rs_ret (re_frz (re_var 1)))))))
theorem ok__law_told (T : Tx G mg w) : FnG G P w mg base 4 T.a__law_told T.d__law_told ps__law_told (spF m__law_told) :=
  fn_f (k := 3) (f := f__law_told) T.F__law_told sc__law_told (fun cdv A outer s H E C =>
    (rss_one (rs_tryP C (passes_of rfl) (by rfl) (by rfl) (by rfl) sc__law_told.nd (fun W1 pn1 xe1 Ct pt => (rss_one (rs_ret (re_callN Ct (ok_read_order T) (by decide) (by rfl) T.g_read_order T.F_read_order.kp (bi_read_order T) (ra_cons (re_var 0) ra_nil))))) (hd_cons (i := 1) (t := exm_ParseError) (by rfl) (by rfl) ⟨by rfl, by decide, .inl T.gx_ParseError⟩ T.ex_ParseError (fun a => have Ch := C.hot a; (rss_one (rs_ret (re_tup (ra_cons (re_attr T.at_line (re_var 1)) (ra_cons (re_attr T.at_word (re_var 1)) (ra_cons (re_isK (by rfl) T.is_ValueError (.ty _) (re_var 1) (pe_bltn (by rfl) T.b_ValueError bo_ValueError rfl) (by rfl) T.b_isinstance) ra_nil))))))) hd_nil))))
theorem ok_law (T : Tx G mg w) : FnG G P w mg base 5 T.a_law T.d_law ps_law (spF m_law) :=
  fn_f (k := 4) (f := f_law) T.F_law sc_law (fun cdv A outer s H E C =>
    (rss_cons (rs_set (i := 1) sc_law.nd (by rfl) (Or.inl (by rfl)) (re_callN C (ok__law_pen T) (by decide) (by rfl) T.g__law_pen T.F__law_pen.kp (bi__law_pen T) (ra_cons (re_var 0) ra_nil)))
      (rss_cons (rs_for (T := (.nm 2)) (by rfl) (passes_of rfl) (by rfl) (ri_range1 (by rfl) T.b_range (re_bin (ol_add (by rfl)) re_int (re_callB (cl_min2 (by rfl)) (by rfl) T.b_min bo_min (ra_cons re_int (ra_cons (re_callB (cl_len (by rfl)) (by rfl) T.b_len bo_len (ra_cons (re_var 0) ra_nil)) ra_nil))))) (pg_name (i := 2) sc_law.nd (by rfl) (Or.inl (by rfl))) (rss_cons (rs_set (i := 3) sc_law.nd (by rfl) (Or.inl (by rfl)) (re_callN C (ok__law_hidden T) (by decide) (by rfl) T.g__law_hidden T.F__law_hidden.kp (bi__law_hidden T) (ra_cons (re_var 1) (ra_cons (re_callN C (ok__law_draw T) (by decide) (by rfl) T.g__law_draw T.F__law_draw.kp (bi__law_draw T) (ra_cons (re_var 1) (ra_cons re_int ra_nil))) ra_nil))))
      (rss_cons (rs_set (i := 4) sc_law.nd (by rfl) (Or.inl (by rfl)) (re_callN C (ok__law_written T) (by decide) (by rfl) T.g__law_written T.F__law_written.kp (bi__law_written T) (ra_cons (re_var 3) ra_nil)))
      (rss_cons (rs_if (rw_or (rt_cmp (ol_ne (by rfl) C.hu) (re_callB (cl_repr (by rfl) T.sys C.gd C.hu) (by rfl) T.b_repr bo_repr (ra_cons (re_callN C (ok_order_text T) (by decide) (by rfl) T.g_order_text T.F_order_text.kp (bi_order_text T) (ra_cons (re_var 3) ra_nil)) ra_nil)) (re_callB (cl_repr (by rfl) T.sys C.gd C.hu) (by rfl) T.b_repr bo_repr (ra_cons (re_var 4) ra_nil)) (nomark _)) (rw_or1 (rt_cmp (ol_ne (by rfl) C.hu) (re_callN C (ok_order_text T) (by decide) (by rfl) T.g_order_text T.F_order_text.kp (bi_order_text T) (ra_cons (re_callTy (cl_tuple (by rfl)) (by rfl) T.b_tuple bo_tuple (ra_cons (re_var 3) ra_nil)) ra_nil)) (re_var 4) (nomark _)))).rt (rss_one (rs_ret re_bl)) rss_nil)
      (rss_cons (rs_if (rw_or (rt_cmp (ol_ne (by rfl) C.hu) (re_callB (cl_repr (by rfl) T.sys C.gd C.hu) (by rfl) T.b_repr bo_repr (ra_cons (re_callN C (ok_read_order T) (by decide) (by rfl) T.g_read_order T.F_read_order.kp (bi_read_order T) (ra_cons (re_var 4) ra_nil)) ra_nil)) (re_callB (cl_repr (by rfl) T.sys C.gd C.hu) (by rfl) T.b_repr bo_repr (ra_cons (re_var 3) ra_nil)) (nomark _)) (rw_or1 (rt_cmp (ol_ne (by rfl) C.hu) (re_callN C (ok_read_order T) (by decide) (by rfl) T.g_read_order T.F_read_order.kp (bi_read_order T) (ra_cons (re_var 4) ra_nil)) (re_var 3) (nomark _)))).rt (rss_one (rs_ret re_bl)) rss_nil)
      (rss_cons (rs_set (i := 5) sc_law.nd (by rfl) (Or.inl (by rfl)) (re_lst (ra_cons (re_bin (ol_add (by rfl)) (re_var 4) re_str) (ra_cons (re_bin (ol_add (by rfl)) re_str (re_var 4)) (ra_cons (re_bin (ol_add (by rfl)) (re_var 4) re_str) (ra_cons (re_bin (ol_add (by rfl)) (re_var 4) re_str) (ra_cons (re_bin (ol_add (by rfl)) (re_bin (ol_add (by rfl)) (re_var 4) re_str) (re_var 4)) (ra_cons (re_bin (ol_add (by rfl)) (re_var 4) re_str) (ra_cons (re_bin (ol_add (by rfl)) (re_var 4) re_str) ra_nil)))))))))
      (rss_cons (rs_for (T := (.nm 6)) (by rfl) (passes_of rfl) (by rfl) (ri_range1 (by rfl) T.b_range re_int) (pg_name (i := 6) sc_law.nd (by rfl) (Or.inl (by rfl))) (rss_cons (rs_set (i := 9) sc_law.nd (by rfl) (Or.inl (by rfl)) (re_callN C (ok__law_text_bent T) (by decide) (by rfl) T.g__law_text_bent T.F__law_text_bent.kp (bi__law_text_bent T) (ra_cons (re_var 1) (ra_cons (re_var 4) ra_nil))))
      (rss_one (rs_set (i := 5) sc_law.nd (by rfl) (Or.inl (by rfl)) (re_bin (ol_add (by rfl)) (re_var 5) (re_lst (ra_cons (re_var 9) (ra_cons (re_callN C (ok__law_text_bent T) (by decide) (by rfl) T.g__law_text_bent T.F__law_text_bent.kp (bi__law_text_bent T) (ra_cons (re_var 1) (ra_cons (re_var 9) ra_nil))) ra_nil))))))))
      (rss_cons (rs_for (T := (.nm 7)) (by rfl) (passes_of rfl) (by rfl) (ri_seq (by rfl) (re_var 5)) (pg_name (i := 7) sc_law.nd (by rfl) (Or.inl (by rfl))) (rss_cons (rs_set (i := 10) sc_law.nd (by rfl) (Or.inl (by rfl)) (re_callN C (ok__law_order_in T) (by decide) (by rfl) T.g__law_order_in T.F__law_order_in.kp (bi__law_order_in T) (ra_cons (re_var 7) ra_nil)))
      (rss_one (rs_if (rt_cmp (ol_ne (by rfl) C.hu) (re_callB (cl_repr (by rfl) T.sys C.gd C.hu) (by rfl) T.b_repr bo_repr (ra_cons (re_callN C (ok__law_told T) (by decide) (by rfl) T.g__law_told T.F__law_told.kp (bi__law_told T) (ra_cons (re_var 7) ra_nil)) ra_nil)) (re_callB (cl_repr (by rfl) T.sys C.gd C.hu) (by rfl) T.b_repr bo_repr (ra_cons (re_ifx (rt_val (re_callB (cl_isi (by rfl)) (by rfl) T.b_isinstance bo_isinstance (ra_cons (re_var 10) (ra_cons (re_ty (by rfl) T.b_int bo_int) ra_nil)))) (re_tup (ra_cons re_int (ra_cons (re_var 10) (ra_cons re_bl ra_nil)))) (re_var 10)) ra_nil)) (nomark _)) (rss_one (rs_ret re_bl)) rss_nil))))
      (rss_cons (rs_set (i := 8) sc_law.nd (by rfl) (Or.inl (by rfl)) (re_callN C (ok_read_order T) (by decide) (by rfl) T.g_read_order T.F_read_order.kp (bi_read_order T) (ra_cons (re_var 4) ra_nil)))
      (rss_cons (rs_expr (re_bm (by rfl) F.plainAttrs_list F.slot_list_append F.type_list_append (by decide) ml_append (re_var 8) (ra_cons re_non ra_nil)))
      (rss_one (rs_if (rt_cmp (ol_ne (by rfl) C.hu) (re_callN C (ok_read_order T) (by decide) (by rfl) T.g_read_order T.F_read_order.kp (bi_read_order T) (ra_cons (re_var 4) ra_nil)) (re_var 3) (nomark _)) (rss_one (rs_ret re_bl)) rss_nil))))))))))))
      (rss_one (rs_ret (re_cmp (ol_eq (by rfl) C.hu) (re_lc (own := [((Str.ofString "_law_value"), 11)]) (T := (.nm 11)) (by rfl) (by rfl) sc_law.nd (ri_seq (by rfl) (re_lst (ra_cons re_non (ra_cons re_int (ra_cons re_bl (ra_cons (re_lst (ra_cons re_str ra_nil)) (ra_cons (re_tup (ra_cons re_str ra_nil)) (ra_cons re_dnew (ra_cons (re_lst ra_nil) ra_nil))))))))) (blkOk_by (own := [((Str.ofString "_law_value"), 11)]) (N := N_law) (sc := defScope s_law) (by decide +kernel)) (by decide) (fun s1 H1 a1 cl1 fp1 => (pg_name (i := 11) sc_law.nd (by rfl) (Or.inl (by rfl)))) (fun s1 H1 a1 cl1 fp1 => have C1 := C.blk s1 H1 _ _ fp1; (rts_one (rt_cmp (ol_ne (by rfl) C1.hu) (re_callN C1 (ok__law_told T) (by decide) (by rfl) T.g__law_told T.F__law_told.kp (bi__law_told T) (ra_cons (re_var 11) ra_nil)) (re_tup (ra_cons re_int (ra_cons re_int (ra_cons re_bl ra_nil)))) (nomark _)))) (fun s1 H1 a1 cl1 fp1 => (re_var 11))) (re_lst ra_nil) (nomark _)))))))
end
def dd_is_name : He.DefD := ⟨((Str.ofString "is_name"), none), (Str.ofString "is_name"), (Str.ofString "is_name"), defArgs s_is_name, defBody s_is_name, defScope s_is_name, [], []⟩
def dd_order_text : He.DefD := ⟨((Str.ofString "order_text"), none), (Str.ofString "order_text"), (Str.ofString "order_text"), defArgs s_order_text, defBody s_order_text, defScope s_order_text, [], []⟩
def dd_item_in : He.DefD := ⟨((Str.ofString "item_in"), none), (Str.ofString "item_in"), (Str.ofString "item_in"), defArgs s_item_in, defBody s_item_in, defScope s_item_in, [], []⟩
def dd_read_order : He.DefD := ⟨((Str.ofString "read_order"), none), (Str.ofString "read_order"), (Str.ofString "read_order"), defArgs s_read_order, defBody s_read_order, defScope s_read_order, [], []⟩
def dd__law_pen : He.DefD := ⟨((Str.ofString "_law_pen"), none), (Str.ofString "_law_pen"), (Str.ofString "_law_pen"), defArgs s__law_pen, defBody s__law_pen, defScope s__law_pen, [], []⟩
def dd__law_draw : He.DefD := ⟨((Str.ofString "_law_draw"), none), (Str.ofString "_law_draw"), (Str.ofString "_law_draw"), defArgs s__law_draw, defBody s__law_draw, defScope s__law_draw, [], []⟩
def dd__law_pick : He.DefD := ⟨((Str.ofString "_law_pick"), none), (Str.ofString "_law_pick"), (Str.ofString "_law_pick"), defArgs s__law_pick, defBody s__law_pick, defScope s__law_pick, [], []⟩
def dd__law_names : He.DefD := ⟨((Str.ofString "_law_names"), none), (Str.ofString "_law_names"), (Str.ofString "_law_names"), defArgs s__law_names, defBody s__law_names, defScope s__law_names, [], []⟩
def dd__law_hidden : He.DefD := ⟨((Str.ofString "_law_hidden"), none), (Str.ofString "_law_hidden"), (Str.ofString "_law_hidden"), defArgs s__law_hidden, defBody s__law_hidden, defScope s__law_hidden, [], []⟩
def dd__law_is_name : He.DefD := ⟨((Str.ofString "_law_is_name"), none), (Str.ofString "_law_is_name"), (Str.ofString "_law_is_name"), defArgs s__law_is_name, defBody s__law_is_name, defScope s__law_is_name, [], []⟩
def dd__law_text_bent : He.DefD := ⟨((Str.ofString "_law_text_bent"), none), (Str.ofString "_law_text_bent"), (Str.ofString "_law_text_bent"), defArgs s__law_text_bent, defBody s__law_text_bent, defScope s__law_text_bent, [], []⟩
def dd__law_written : He.DefD := ⟨((Str.ofString "_law_written"), none), (Str.ofString "_law_written"), (Str.ofString "_law_written"), defArgs s__law_written, defBody s__law_written, defScope s__law_written, [], []⟩
def dd__law_order_in : He.DefD := ⟨((Str.ofString "_law_order_in"), none), (Str.ofString "_law_order_in"), (Str.ofString "_law_order_in"), defArgs s__law_order_in, defBody s__law_order_in, defScope s__law_order_in, [], []⟩
def dd__law_told : He.DefD := ⟨((Str.ofString "_law_told"), none), (Str.ofString "_law_told"), (Str.ofString "_law_told"), defArgs s__law_told, defBody s__law_told, defScope s__law_told, [], []⟩
def dd_law : He.DefD := ⟨((Str.ofString "law"), none), (Str.ofString "law"), (Str.ofString "law"), defArgs s_law, defBody s_law, defScope s_law, [], []⟩
def ddi_ParseError : He.DefD := ⟨((Str.ofString "ParseError"), some (Str.ofString "__init__")), (Str.ofString "__init__"), (Str.ofString "ParseError.__init__"), defArgs si_ParseError, defBody si_ParseError, defScope si_ParseError, [], []⟩
def fn : List He.DefD := [dd_is_name, dd_order_text, dd_item_in, dd_read_order, dd__law_pen, dd__law_draw, dd__law_pick, dd__law_names, dd__law_hidden, dd__law_is_name, dd__law_text_bent, dd__law_written, dd__law_order_in, dd__law_told, dd_law, ddi_ParseError]
def fa : List He.Fa := [.glo (Str.ofString "is_name"), .glo (Str.ofString "order_text"), .glo (Str.ofString "item_in"), .glo (Str.ofString "read_order"), .glo (Str.ofString "_law_pen"), .glo (Str.ofString "_law_draw"), .glo (Str.ofString "_law_pick"), .glo (Str.ofString "_law_names"), .glo (Str.ofString "_law_hidden"), .glo (Str.ofString "_law_is_name"), .glo (Str.ofString "_law_text_bent"), .glo (Str.ofString "_law_written"), .glo (Str.ofString "_law_order_in"), .glo (Str.ofString "_law_told"), .glo (Str.ofString "law"), .glo (Str.ofString "ParseError"), .free (Str.ofString "ValueError"), .free (Str.ofString "abs"), .free (Str.ofString "all"), .free (Str.ofString "enumerate"), .free (Str.ofString "int"), .free (Str.ofString "isinstance"), .free (Str.ofString "len"), .free (Str.ofString "list"), .free (Str.ofString "min"), .free (Str.ofString "range"), .free (Str.ofString "repr"), .free (Str.ofString "str"), .free (Str.ofString "tuple"), .glo (Str.ofString "SIGNS"), .str (Str.ofString "LETTERS") (Str.ofString "abcdefghijklmnopqrstuvwxyz"), .int (Str.ofString "LONGEST_NAME") 8, .exm (Str.ofString "ParseError") (Str.ofString "ParseError") true, .noat (Str.ofString "ParseError") (Str.ofString "word"), .noat (Str.ofString "ParseError") (Str.ofString "line")]
def clsT (K : PySem.W.Frag) : String → Option Addr := fun c => if c = "ParseError" then some (He.ga K (Str.ofString "ParseError")) else none
def isET : String → Bool := fun c => c == "ParseError"
theorem ie_ParseError : isET "ParseError" = true := by decide
theorem clsT_cases {K : PySem.W.Frag} {c : String} {C : Addr} (h : clsT K c = some C) : (c = "ParseError" ∧ (He.ga K (Str.ofString "ParseError")) = C) := by
  unfold clsT at h
  by_cases y : c = "ParseError"
  · rw [if_pos y] at h
    exact ⟨y, Option.some.inj h⟩
  rw [if_neg y] at h
  cases h
def cks (K : PySem.W.Frag) : List Bool := [exB K (Str.ofString "ParseError") [(Str.ofString "line"), (Str.ofString "word")], xfB K (He.ga K (Str.ofString "ParseError")), iscB K (He.ga K (Str.ofString "ParseError")), kitB K (.ref (He.ga K (Str.ofString "ParseError"))) (.type "ValueError") (is_ValueError "ParseError"), bltB K (.type "ValueError") is_ValueError, tabB K (He.ga K (Str.ofString "SIGNS")) tab_SIGNS]
def ck (K : PySem.W.Frag) : Bool := (cks K).all id
theorem ck_at {K : PySem.W.Frag} (h : ck K = true) (i : Nat) {b : Bool} (e : (cks K)[i]? = some b) : b = true := List.all_eq_true.mp h b (List.mem_of_getElem? e)
abbrev Rw : PySem.W.OpenRow := PySem.W.OpenLaw.row PySem.Challenge.rw_rockbeds_k87_texts_of_orders
def tds : List He.Tab := [(fun K => He.ga K (Str.ofString "SIGNS"), [(Str.ofString "lay"), (Str.ofString "cut"), (Str.ofString "dike")])]
abbrev hk : PySem.W.Hook := hookD 3000 fa fn ck tds
def ob (s : PySem.W.SharedT) : AlX := obsDG 3000 fa fn ck tds (HandSHeadRun.getT s)
theorem ob_eq (s : PySem.W.SharedT) : ob s = hk.obs s.abs := obsDG_eq (HandSHeadRun.getT_eq s)
def loose : List Str := ([(Str.ofString "ParseError"), (Str.ofString "LETTERS"), (Str.ofString "LONGEST_NAME"), (Str.ofString "is_name"), (Str.ofString "SIGNS"), (Str.ofString "order_text"), (Str.ofString "item_in"), (Str.ofString "read_order"), (Str.ofString "_law_pen"), (Str.ofString "_law_draw"), (Str.ofString "_law_pick"), (Str.ofString "_law_names"), (Str.ofString "_law_hidden"), (Str.ofString "_law_is_name"), (Str.ofString "_law_text_bent"), (Str.ofString "_law_written"), (Str.ofString "_law_order_in"), (Str.ofString "_law_told")] : List Str)
theorem run (w : World) : HandSHeadRun.RunEq Rw (PySem.W.view Rw.prog [22]) hk ob 6000 loose w := world_cases (p := fun w => HandSHeadRun.RunEq Rw (PySem.W.view Rw.prog [22]) hk ob 6000 loose w) (fun b d P => by
  cases b <;> (intro os; kernel_rfl)) w
theorem facts {P : Program} {w : World} {K : PySem.W.Frag} {h : Heap} {mg : Str → Option Value} {f : Addr} (X : K.In h) (G : h.Ns mainGlobals mg) (hfa : mg (Str.ofString "law") = some (.ref f)) (c : He.SaysD fa fn K) (hy : KSys K) (hc : ck K = true) (hd : dObs tds K = dVal tds w) :
    ∃ (G : Glob) (fd : FuncData) (cs : List (Addr × Addr)), G.K = K ∧ cs = [] ∧ G.tabs = [] ∧ G.I0 = (fun _ => none) ∧ G.as0 = [] ∧ (∀ (s : Shared) (v : Value), BindsTo s fd ⟨[v], []⟩ [((Str.ofString "_law_script"), v)]) ∧ ∀ base : Heap, K.In base → base.Ns mainGlobals mg → FnG G P w mg base 5 f fd ps_law (spF m_law) := by
  obtain ⟨d_is_name, F_is_name⟩ := c.def_ 0 (d := dd_is_name) rfl
  obtain ⟨d_order_text, F_order_text⟩ := c.def_ 1 (d := dd_order_text) rfl
  obtain ⟨d_item_in, F_item_in⟩ := c.def_ 2 (d := dd_item_in) rfl
  obtain ⟨d_read_order, F_read_order⟩ := c.def_ 3 (d := dd_read_order) rfl
  obtain ⟨d__law_pen, F__law_pen⟩ := c.def_ 4 (d := dd__law_pen) rfl
  obtain ⟨d__law_draw, F__law_draw⟩ := c.def_ 5 (d := dd__law_draw) rfl
  obtain ⟨d__law_pick, F__law_pick⟩ := c.def_ 6 (d := dd__law_pick) rfl
  obtain ⟨d__law_names, F__law_names⟩ := c.def_ 7 (d := dd__law_names) rfl
  obtain ⟨d__law_hidden, F__law_hidden⟩ := c.def_ 8 (d := dd__law_hidden) rfl
  obtain ⟨d__law_is_name, F__law_is_name⟩ := c.def_ 9 (d := dd__law_is_name) rfl
  obtain ⟨d__law_text_bent, F__law_text_bent⟩ := c.def_ 10 (d := dd__law_text_bent) rfl
  obtain ⟨d__law_written, F__law_written⟩ := c.def_ 11 (d := dd__law_written) rfl
  obtain ⟨d__law_order_in, F__law_order_in⟩ := c.def_ 12 (d := dd__law_order_in) rfl
  obtain ⟨d__law_told, F__law_told⟩ := c.def_ 13 (d := dd__law_told) rfl
  obtain ⟨d_law, F_law⟩ := c.def_ 14 (d := dd_law) rfl
  obtain ⟨di_ParseError, Fi_ParseError⟩ := c.def_ 15 (d := ddi_ParseError) rfl
  have T : Tx ⟨K, clsT K, isET, [], 0, fun _ => none, []⟩ mg w := {
    a_is_name := _,
    d_is_name := d_is_name,
    F_is_name := F_is_name,
    g_is_name := He.glo_ok X G (c.fact 0 rfl),
    a_order_text := _,
    d_order_text := d_order_text,
    F_order_text := F_order_text,
    g_order_text := He.glo_ok X G (c.fact 1 rfl),
    a_item_in := _,
    d_item_in := d_item_in,
    F_item_in := F_item_in,
    g_item_in := He.glo_ok X G (c.fact 2 rfl),
    a_read_order := _,
    d_read_order := d_read_order,
    F_read_order := F_read_order,
    g_read_order := He.glo_ok X G (c.fact 3 rfl),
    a__law_pen := _,
    d__law_pen := d__law_pen,
    F__law_pen := F__law_pen,
    g__law_pen := He.glo_ok X G (c.fact 4 rfl),
    a__law_draw := _,
    d__law_draw := d__law_draw,
    F__law_draw := F__law_draw,
    g__law_draw := He.glo_ok X G (c.fact 5 rfl),
    a__law_pick := _,
    d__law_pick := d__law_pick,
    F__law_pick := F__law_pick,
    g__law_pick := He.glo_ok X G (c.fact 6 rfl),
    a__law_names := _,
    d__law_names := d__law_names,
    F__law_names := F__law_names,
    g__law_names := He.glo_ok X G (c.fact 7 rfl),
    a__law_hidden := _,
    d__law_hidden := d__law_hidden,
    F__law_hidden := F__law_hidden,
    g__law_hidden := He.glo_ok X G (c.fact 8 rfl),
    a__law_is_name := _,
    d__law_is_name := d__law_is_name,
    F__law_is_name := F__law_is_name,
    g__law_is_name := He.glo_ok X G (c.fact 9 rfl),
    a__law_text_bent := _,
    d__law_text_bent := d__law_text_bent,
    F__law_text_bent := F__law_text_bent,
    g__law_text_bent := He.glo_ok X G (c.fact 10 rfl),
    a__law_written := _,
    d__law_written := d__law_written,
    F__law_written := F__law_written,
    g__law_written := He.glo_ok X G (c.fact 11 rfl),
    a__law_order_in := _,
    d__law_order_in := d__law_order_in,
    F__law_order_in := F__law_order_in,
    g__law_order_in := He.glo_ok X G (c.fact 12 rfl),
    a__law_told := _,
    d__law_told := d__law_told,
    F__law_told := F__law_told,
    g__law_told := He.glo_ok X G (c.fact 13 rfl),
    a_law := _,
    d_law := d_law,
    F_law := F_law,
    g_law := He.glo_ok X G (c.fact 14 rfl),
    x_ParseError := He.ga K (Str.ofString "ParseError"),
    i_ParseError := He.ma K (He.ga K (Str.ofString "ParseError")) (Str.ofString "__init__"),
    di_ParseError := di_ParseError,
    Fi_ParseError := Fi_ParseError,
    gx_ParseError := He.glo_ok X G (c.fact 15 rfl),
    K_ParseError := exB_ok (ck_at hc 0 rfl),
    cl_ParseError := by simp [clsT],
    ie_ParseError := ie_ParseError,
    ex_ParseError := fun y C h => by
      rcases clsT_cases h with ⟨rfl, rfl⟩
      · rw [show exm_ParseError "ParseError" = true by decide]; exact He.exm_ok (c.fact 32 rfl)
,
    is_ValueError := isT_mk2 (fun y hm C h => by
      rcases clsT_cases h with ⟨rfl, rfl⟩
      · exact ⟨ck_at hc 2 rfl, .inr ⟨ie_ParseError, ck_at hc 1 rfl⟩, ck_at hc 3 rfl⟩
      ) (ck_at hc 4 rfl),
    at_word := fun y hm C h => by
      rcases clsT_cases h with ⟨rfl, rfl⟩
      · exact ⟨He.noat_ok (c.fact 33 rfl), ⟨fun _ => xfB_ok (ck_at hc 1 rfl), fun e => absurd (ie_ParseError.symm.trans e) (by decide)⟩⟩
,
    fs_word := fun y hm C h => by
      rcases clsT_cases h with ⟨rfl, rfl⟩
      · exact absurd hm (by decide)
,
    at_line := fun y hm C h => by
      rcases clsT_cases h with ⟨rfl, rfl⟩
      · exact ⟨He.noat_ok (c.fact 34 rfl), ⟨fun _ => xfB_ok (ck_at hc 1 rfl), fun e => absurd (ie_ParseError.symm.trans e) (by decide)⟩⟩
,
    fs_line := fun y hm C h => by
      rcases clsT_cases h with ⟨rfl, rfl⟩
      · exact absurd hm (by decide)
,
    sys := hy,
    b_ValueError := He.free_ok X G (c.fact 16 rfl),
    b_abs := He.free_ok X G (c.fact 17 rfl),
    b_all := He.free_ok X G (c.fact 18 rfl),
    b_enumerate := He.free_ok X G (c.fact 19 rfl),
    b_int := He.free_ok X G (c.fact 20 rfl),
    b_isinstance := He.free_ok X G (c.fact 21 rfl),
    b_len := He.free_ok X G (c.fact 22 rfl),
    b_list := He.free_ok X G (c.fact 23 rfl),
    b_min := He.free_ok X G (c.fact 24 rfl),
    b_range := He.free_ok X G (c.fact 25 rfl),
    b_repr := He.free_ok X G (c.fact 26 rfl),
    b_str := He.free_ok X G (c.fact 27 rfl),
    b_tuple := He.free_ok X G (c.fact 28 rfl),
    x_SIGNS := He.ga K (Str.ofString "SIGNS"),
    gd_SIGNS := He.glo_ok X G (c.fact 29 rfl),
    tb_SIGNS := tabB_ok (dObs_at hd 0) (ck_at hc 5 rfl),
    c_LETTERS := He.str_ok X G (c.fact 30 rfl),
    c_LONGEST_NAME := He.int_ok X G (c.fact 31 rfl) }
  have e := hfa.symm.trans T.g_law
  cases e
  have b := FunD.bindsA (ps := ps_law) T.F_law fun _ _ _ _ _ _ us hl => match us, hl with | [_], _ => rfl
  exact ⟨⟨K, clsT K, isET, [], 0, fun _ => none, []⟩, T.d_law, [], rfl, rfl, rfl, rfl, rfl, fun s v => b s [v] rfl, fun base _ _ => ok_law T⟩
end RB.F
open PySem PySem.W PySem.Calls PyProof.Rows
set_option maxRecDepth 100000 in
set_option maxHeartbeats 0 in
theorem PySem.Challenge.cw_rockbeds_k87_texts_of_orders_holds : PySem.Challenge.rw_rockbeds_k87_texts_of_orders.Holds := by
  w_on; o_law
  refine HandSHeadRun.head_any (r := OpenLaw.row PySem.Challenge.rw_rockbeds_k87_texts_of_orders) (q := view (OpenLaw.row PySem.Challenge.rw_rockbeds_k87_texts_of_orders).prog [22]) (H := RB.F.hk) (ob := RB.F.ob) (M := 6000) (loose := RB.F.loose) (d := HandSHeadRun.topDef (OpenLaw.row PySem.Challenge.rw_rockbeds_k87_texts_of_orders).prog 22) (kwd := []) RB.F.ob_eq
    (by kernel_rfl) (fun s => by kernel_rfl) RB.F.run (by kernel_rfl) (by kernel_rfl) (by kernel_rfl) (by rfl) (by first | assumption | decide +kernel) (by decide +kernel) ⟨rfl, rfl, rfl, rfl, rfl, by decide +kernel⟩ ?hw ?hc
  case hw => w_witness2
  case hc =>
    refine RB.walk_g (l := PySem.Challenge.rw_rockbeds_k87_texts_of_orders) (n := 63) (k := 5) (x := (PySem.Str.ofString "_law_script")) rfl (by decide) (by kernel_rfl) ⟨rfl, by decide, by decide⟩ ?F
    intro w mg fa h Y G hmg0
    obtain ⟨K, KX, c, hy, hc, hd⟩ := Y
    have hmg : mg (PySem.Str.ofString "law") = some (.ref fa) := by
      have e : (HandSHeadRun.topDef (OpenLaw.row PySem.Challenge.rw_rockbeds_k87_texts_of_orders).prog 22).name = (PySem.Str.ofString "law") := by kernel_rfl
      rw [← e]
      exact hmg0
    obtain ⟨Gb, fd, cs, hK, ecs, eT, e0, e1, hb, hF⟩ := RB.F.facts (P := (PySem.Challenge.rw_rockbeds_k87_texts_of_orders).prog) (w := w) KX G hmg c hy hc hd
    subst hK
    subst ecs
    exact ⟨Gb, fd, (RB.F.spF RB.F.m_law), [], KX, by rw [eT]; rfl, e0, e1, fun p hp => (by cases hp), fun p hp => (by cases hp), fun p hp => (by cases hp), hb, fun ns hl => RB.F.law_true ns hl, fun base h1 h2 _ => hF base h1 h2⟩
