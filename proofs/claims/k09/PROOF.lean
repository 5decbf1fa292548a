import PyProof.Rows.All
import Wide.All
import OpenK.AllK
import Wide.FinOn
import HandS.ForMost
import HandS.ForExc
import HandS.IsInst
import HandS.Flow
import HandS.Walk
import HandS.Wide
import HandS.TupLe
import HandS.Defaults
import HandS.TryMany
import HandS.More
import HandS.FStr
import HandS.TupAny
import HandS.EndBits
import HandS.Head0
import HandS.Head1
import HandS.Head2
import HandS.HeadEnd
import HandS.HeadHook1
import HandS.HeadHook2
import HandS.Lambda
import HandS.ExcInit
import HandS.ExcField
import HandS.ExcIs
import KE.KExcIs
import HandS.Style
import HandS.TryOnly
import HandS.Deep
import HandS.StrSplit
import HandS.MakeKw
import HandS.MakeKwOnly
import HandS.Zip
import HandS.Star
import KE.KUnpackStar
import HandS.OwnEq
import PyProof.LongRange
import KE.KExcInit
import HandS.RaiseMore
import HandS.Conv
import PyProof.Rows.StrIntSpec
import KE.KxIndex
import KE.KDictWalk
import PyProof.ListStr
import HandS.HeadHook3
import HandS.Small
import KE.KSuper
import HandS.ClsMeth
import HandS.TupMul
import KE.GoesEnum
import PyProof.NeKinds
import HandS.Property
import KE.GoesZip
import KE.GoesMore
import PyProof.EqKinds
import PyProof.FactsAll.dict_1
import PyProof.AttrMissHeap
import PyProof.Conv_bool
import HandS.SetBool
import PyProof.Rows.SortShellAny
import HandS.DictComp
import HandS.Iter
import KE.KTupSum
import HandS.Text
import HandS.Sort
import KE.KSortTupG
import KE.KItemsList
import HandS.DictTup
import KE.KEqNest
import PySem.Challenge.RW_rockbeds_k09_sections_made_and_refused
set_option Elab.async false
set_option linter.all false
set_option maxRecDepth 100000
set_option maxHeartbeats 4000000
namespace RB
open PySem PySem.Spec PyProof.Rows L2
inductive P where
  | non | bl (b : Bool) | int (i : Int) | str (x : Str) | ty (n : String)
  | tup (xs : List P) | lst (xs : List P) | scr (xs : List P)
  | dK (ks : List Key) (vs : List P)
  | dT (ks : List (List Key)) (vs : List P)
  | obj (c : String) (ns : List Str) (vs : List P)
  | cel (n : Nat)
  | fK (ks : List Key) (vs : List P)
inductive D where
  | p (p : P)
  | cell (n : Nat)
  | fn
inductive Cell where
  | lst (xs : List P)
  | dK (ks : List Key) (vs : List P)
  | obj (c : String) (ns : List Str) (vs : List P)
  | dead
abbrev Store := List Cell
abbrev Rho := List (Option D)
structure Exc where
  c : String
  ns : List Str
  vs : List P
structure Glob where
  K : PySem.W.Frag
  cls : String → Option Addr
  isE : String → Bool
  tabs : List (Addr × Str)
  fa : Addr
  cels : Bool
  I0 : Hp
  as0 : List Addr
def xob (a C : Addr) (dd : Option Addr) : HO := .ext fun h => ∃ (oe : Obj) (vs : Array Value), h.get? a = some oe ∧ oe.cls = .ref C ∧ oe.dict = dd ∧ oe.data = .fields vs
def ObjAt (x : Bool) (I : Hp) (a C : Addr) (fs : List (Str × V)) : Prop :=
  (x = false ∧ ∃ dx, I a = some (.ins C dx fs)) ∨ x = true ∧ ∃ dd, I a = some (xob a C dd) ∧ ((dd = none ∧ fs = []) ∨ ∃ d, dd = some d ∧ I d = some (.xd fs))
theorem ObjAt.mono {I I' : Hp} (s : Same I I') {a C : Addr} {fs : List (Str × V)} {x : Bool} (h : ObjAt x I a C fs) : ObjAt x I' a C fs := by
  rcases h with ⟨e, dx, h⟩ | ⟨e, dd, h, q⟩
  · exact .inl ⟨e, dx, s _ _ h⟩
  · refine .inr ⟨e, dd, s _ _ h, ?_⟩
    rcases q with q | ⟨d, e, q⟩
    · exact .inl q
    · exact .inr ⟨d, e, s _ _ q⟩
structure Wd where
  I : Hp
  as : List Addr
  ts : List Addr
abbrev AsLe (w w' : Wd) : Prop := ∃ t, w'.as = w.as ++ t
theorem AsLe.at_ {w w' : Wd} (h : AsLe w w') {n : Nat} {a : Addr} (e : w.as[n]? = some a) : w'.as[n]? = some a := by
  obtain ⟨t, ht⟩ := h
  rw [ht, List.getElem?_append_left (List.getElem?_eq_some_iff.mp e).1]
  exact e
mutual
def Rep (G : Glob) (I : Wd) : V → P → Prop
  | v, .non => v = .non
  | v, .bl b => v = .bl b
  | v, .int i => v = .int i
  | v, .str x => v = .str x
  | v, .ty n => v = .ty n
  | v, .tup ds => ∃ a vs, v = .ref a ∧ SqT G.K I.I a vs ∧ Reps G I vs ds
  | v, .lst ds => ∃ a vs, v = .ref a ∧ I.I a = some (.lst vs) ∧ Reps G I vs ds
  | v, .scr ds => ∃ a vs, v = .ref a ∧ SqL G.K I.I a vs ∧ Reps G I vs ds
  | v, .dK ks ds => ∃ a kvs, v = .ref a ∧ I.I a = some (.dK kvs) ∧ kvs.map (·.1) = ks ∧ Reps G I (kvs.map (·.2)) ds
  | v, .dT ks ds => ∃ a kvs, v = .ref a ∧ I.I a = some (.dT kvs) ∧ kvs.map (·.1) = ks ∧ Reps G I (kvs.map (·.2)) ds
  | v, .fK ks ds => ∃ a kvs o, v = .ref a ∧ I.I a = some (.frz o (.dK kvs)) ∧ kvs.map (·.1) = ks ∧ Reps G I (kvs.map (·.2)) ds
  | v, .obj c ns ds => ∃ a C fs, v = .ref a ∧ G.cls c = some C ∧ ObjAt (G.isE c) I.I a C fs ∧ fs.map (·.1) = ns ∧ Reps G I (fs.map (·.2)) ds
  | v, .cel n => G.cels = true ∧ ∃ a, v = .ref a ∧ I.as[n]? = some a
def Reps (G : Glob) (I : Wd) : List V → List P → Prop
  | vs, [] => vs = []
  | vs, d :: ds => ∃ v r, vs = v :: r ∧ Rep G I v d ∧ Reps G I r ds
end
theorem Same.tup {K : PySem.W.Frag} {H H' : Hp} {a : Addr} {xs : List V} (e : Same H H') (h : SqT K H a xs) : SqT K H' a xs := by
  rcases h with (h | ⟨o, h⟩) | h
  · exact .inl (.inl (e _ _ h))
  · exact .inl (.inr ⟨o, e _ _ h⟩)
  · exact .inr h
mutual
theorem Rep.mono {G : Glob} {I I' : Wd} (s : Same I.I I'.I) (t : AsLe I I' := by first | exact ⟨[], (List.append_nil _).symm⟩ | exact ⟨_, rfl⟩ | assumption) : ∀ {d : P} {v : V}, Rep G I v d → Rep G I' v d
  | .non, _, h => by simpa only [Rep] using h
  | .bl _, _, h => by simpa only [Rep] using h
  | .int _, _, h => by simpa only [Rep] using h
  | .str _, _, h => by simpa only [Rep] using h
  | .ty _, _, h => by simpa only [Rep] using h
  | .tup ds, _, h => by
    simp only [Rep] at h ⊢
    obtain ⟨a, vs, e, q, r⟩ := h
    exact ⟨a, vs, e, Same.tup s q, Reps.mono s t r⟩
  | .lst ds, _, h => by
    simp only [Rep] at h ⊢
    obtain ⟨a, vs, e, q, r⟩ := h
    exact ⟨a, vs, e, s _ _ q, Reps.mono s t r⟩
  | .scr ds, _, h => by
    simp only [Rep] at h ⊢
    obtain ⟨a, vs, e, q, r⟩ := h
    exact ⟨a, vs, e, Same.seq s q, Reps.mono s t r⟩
  | .dK ks ds, _, h => by
    simp only [Rep] at h ⊢
    obtain ⟨a, vs, e, q, k, r⟩ := h
    exact ⟨a, vs, e, s _ _ q, k, Reps.mono s t r⟩
  | .dT ks ds, _, h => by
    simp only [Rep] at h ⊢
    obtain ⟨a, vs, e, q, k, r⟩ := h
    exact ⟨a, vs, e, s _ _ q, k, Reps.mono s t r⟩
  | .fK ks ds, _, h => by
    simp only [Rep] at h ⊢
    obtain ⟨a, vs, o, e, q, k, r⟩ := h
    exact ⟨a, vs, o, e, s _ _ q, k, Reps.mono s t r⟩
  | .obj c ns ds, _, h => by
    simp only [Rep] at h ⊢
    obtain ⟨a, C, fs, e, g, q, k, r⟩ := h
    exact ⟨a, C, fs, e, g, q.mono s, k, Reps.mono s t r⟩
  | .cel n, _, h => by
    simp only [Rep] at h ⊢
    obtain ⟨c, a, e, q⟩ := h
    exact ⟨c, a, e, t.at_ q⟩
theorem Reps.mono {G : Glob} {I I' : Wd} (s : Same I.I I'.I) (t : AsLe I I' := by first | exact ⟨[], (List.append_nil _).symm⟩ | exact ⟨_, rfl⟩ | assumption) : ∀ {ds : List P} {vs : List V}, Reps G I vs ds → Reps G I' vs ds
  | [], _, h => by simpa only [Reps] using h
  | d :: ds, _, h => by
    simp only [Reps] at h ⊢
    obtain ⟨v, r, e, h1, h2⟩ := h
    exact ⟨v, r, e, Rep.mono s t h1, Reps.mono s t h2⟩
end
theorem Reps.length {G : Glob} {I : Wd} : ∀ {ds : List P} {vs : List V}, Reps G I vs ds → vs.length = ds.length
  | [], _, h => by simp only [Reps] at h; subst h; rfl
  | d :: ds, _, h => by
    simp only [Reps] at h
    obtain ⟨v, r, e, h1, h2⟩ := h
    subst e
    simp [Reps.length h2]
theorem Reps.nil {G : Glob} {I : Wd} : Reps G I [] [] := by simp only [Reps]
theorem Reps.cons {G : Glob} {I : Wd} {v : V} {d : P} {vs : List V} {ds : List P} (h : Rep G I v d) (t : Reps G I vs ds) : Reps G I (v :: vs) (d :: ds) := by
  simp only [Reps]; exact ⟨v, vs, rfl, h, t⟩
theorem Reps.append {G : Glob} {I : Wd} : ∀ {ds es : List P} {vs us : List V}, Reps G I vs ds → Reps G I us es → Reps G I (vs ++ us) (ds ++ es)
  | [], _, _, _, h, t => by simp only [Reps] at h; subst h; exact t
  | d :: ds, _, _, _, h, t => by
    simp only [Reps] at h
    obtain ⟨v, r, e, h1, h2⟩ := h
    subst e
    exact Reps.cons h1 (Reps.append h2 t)
theorem Reps.get {G : Glob} {I : Wd} : ∀ {ds : List P} {vs : List V} {i : Nat} {d : P}, Reps G I vs ds → ds[i]? = some d → ∃ v, vs[i]? = some v ∧ Rep G I v d
  | [], _, _, _, _, e => by simp at e
  | d :: ds, _, 0, _, h, e => by
    simp only [Reps] at h
    obtain ⟨v, r, e', h1, h2⟩ := h
    subst e'
    simp at e; subst e
    exact ⟨v, rfl, h1⟩
  | d :: ds, _, i + 1, _, h, e => by
    simp only [Reps] at h
    obtain ⟨v, r, e', h1, h2⟩ := h
    subst e'
    simpa using Reps.get h2 (by simpa using e)
theorem Reps.get' {G : Glob} {I : Wd} : ∀ {ds : List P} {vs : List V} {i : Nat} {v : V}, Reps G I vs ds → vs[i]? = some v → ∃ d, ds[i]? = some d ∧ Rep G I v d
  | [], _, _, _, h, e => by simp only [Reps] at h; subst h; simp at e
  | d :: ds, _, 0, _, h, e => by
    simp only [Reps] at h
    obtain ⟨v, r, e', h1, h2⟩ := h
    subst e'
    simp at e; subst e
    exact ⟨d, rfl, h1⟩
  | d :: ds, _, i + 1, _, h, e => by
    simp only [Reps] at h
    obtain ⟨v, r, e', h1, h2⟩ := h
    subst e'
    simpa using Reps.get' h2 (by simpa using e)
theorem Reps.take {G : Glob} {I : Wd} : ∀ {ds : List P} {vs : List V} (n : Nat), Reps G I vs ds → Reps G I (vs.take n) (ds.take n)
  | _, _, 0, _ => by simpa using Reps.nil
  | [], _, n + 1, h => by simp only [Reps] at h; subst h; simpa using Reps.nil
  | d :: ds, _, n + 1, h => by
    simp only [Reps] at h
    obtain ⟨v, r, e', h1, h2⟩ := h
    subst e'
    simpa using Reps.cons h1 (Reps.take n h2)
theorem Reps.drop {G : Glob} {I : Wd} : ∀ {ds : List P} {vs : List V} (n : Nat), Reps G I vs ds → Reps G I (vs.drop n) (ds.drop n)
  | _, _, 0, h => by simpa using h
  | [], _, n + 1, h => by simp only [Reps] at h; subst h; simpa using Reps.nil
  | d :: ds, _, n + 1, h => by
    simp only [Reps] at h
    obtain ⟨v, r, e', h1, h2⟩ := h
    subst e'
    simpa using Reps.drop n h2
theorem Reps.set {G : Glob} {I : Wd} {v : V} {d : P} (q : Rep G I v d) : ∀ {ds : List P} {vs : List V} (n : Nat), Reps G I vs ds → Reps G I (vs.set n v) (ds.set n d)
  | [], _, n, h => by simp only [Reps] at h; subst h; simpa using Reps.nil
  | d' :: ds, _, 0, h => by
    simp only [Reps] at h
    obtain ⟨v, r, e', h1, h2⟩ := h
    subst e'
    simpa using Reps.cons q h2
  | d' :: ds, _, n + 1, h => by
    simp only [Reps] at h
    obtain ⟨v, r, e', h1, h2⟩ := h
    subst e'
    simpa using Reps.cons h1 (Reps.set q n h2)
def RepD (G : Glob) (w : Wd) : V → D → Prop
  | v, .p d => Rep G w v d
  | v, .cell n => ∃ a, v = .ref a ∧ w.as[n]? = some a
  | v, .fn => v = .ref G.fa
def CellOk (G : Glob) (I : Wd) (H : Hp) (a : Addr) : Cell → Prop
  | .lst ds => I.I a = none ∧ ∃ vs, H a = some (.lst vs) ∧ Reps G I vs ds
  | .dK ks ds => I.I a = none ∧ ∃ kvs, H a = some (.dK kvs) ∧ kvs.map (·.1) = ks ∧ Reps G I (kvs.map (·.2)) ds
  | .obj c ns ds => I.I a = none ∧ G.isE c = false ∧ ∃ C dx fs, G.cls c = some C ∧ H a = some (.ins C dx fs) ∧ fs.map (·.1) = ns ∧ Reps G I (fs.map (·.2)) ds
  | .dead => ∃ o, H a = some o
def TabW (I H : Hp) (P : Addr) (q : Str) : Prop := ∃ ps : Array Value, H P = some (.tbl ps) ∧ TriplesOk ps.toList ∧ ∀ (pos : Pos) (cv : Value), codeAmong pos ps.toList = some cv → ∃ c, cv = .ref c ∧ I c = some (LamX.CodeO c q)
structure TabsOk (G : Glob) (w : Wd) (H : Hp) : Prop where
  ts : w.ts = G.tabs.map (·.1)
  at_ : ∀ p ∈ G.tabs, TabW w.I H p.1 p.2 ∧ w.I p.1 = none ∧ p.1 ∉ w.as
  un : Same G.I0 w.I ∧ ∃ t, w.as = G.as0 ++ t
theorem TabsOk.tbl {G : Glob} {w : Wd} {H : Hp} (h : TabsOk G w H) {P : Addr} (m : P ∈ w.ts) : ∃ ps, H P = some (.tbl ps) := by
  rw [h.ts] at m
  obtain ⟨p, hp, rfl⟩ := List.mem_map.mp m
  obtain ⟨⟨ps, e, _⟩, _⟩ := h.at_ p hp
  exact ⟨ps, e⟩
theorem TabsOk.step {G : Glob} {w w' : Wd} {H H' : Hp} (h : TabsOk G w H) (ts : w'.ts = w.ts) (sI : Same w.I w'.I) (sA : ∃ t, w'.as = w.as ++ t) (k : ∀ P ps, P ∈ w.ts → H P = some (.tbl ps) → w.I P = none → P ∉ w.as → H' P = some (.tbl ps) ∧ w'.I P = none ∧ P ∉ w'.as) : TabsOk G w' H' := by
  refine ⟨ts.trans h.ts, fun p hp => ?_, h.un.1.trans sI, by
    obtain ⟨t, e⟩ := h.un.2
    obtain ⟨t', e'⟩ := sA
    exact ⟨t ++ t', by rw [e', e, List.append_assoc]⟩⟩
  obtain ⟨⟨ps, e1, e2, e3⟩, e4, e5⟩ := h.at_ p hp
  obtain ⟨f1, f2, f3⟩ := k p.1 ps (by rw [h.ts]; exact List.mem_map.mpr ⟨p, hp, rfl⟩) e1 e4 e5
  refine ⟨⟨ps, f1, e2, fun pos cv hc => ?_⟩, f2, f3⟩
  obtain ⟨c, g1, g2⟩ := e3 pos cv hc
  exact ⟨c, g1, sI _ _ g2⟩
structure Wok (G : Glob) (w : Wd) (S : Store) (H : Hp) : Prop where
  sub : Same w.I H
  len : w.as.length = S.length
  nd : w.as.Nodup
  tb : TabsOk G w H
  cells : ∀ (n : Nat) (c : Cell) (a : Addr), S[n]? = some c → w.as[n]? = some a → CellOk G w H a c
structure Ext (w : Wd) (H : Hp) (w' : Wd) (H' : Hp) : Prop where
  I : Same w.I w'.I
  as : ∃ t, w'.as = w.as ++ t
  ts : w'.ts = w.ts
  frame : ∀ b o, H b = some o → b ∉ w.as → b ∉ w.ts → H' b = some o
  fresh : ∀ b o, H b = some o → b ∉ w.as → b ∉ w'.as ∧ (w.I b = none → w'.I b = none)
  there : ∀ b o, H b = some o → ∃ o', H' b = some o'
theorem CellOk.there {G : Glob} {I : Wd} {H : Hp} {a : Addr} {c : Cell} (h : CellOk G I H a c) : ∃ o, H a = some o := by
  cases c with
  | lst => obtain ⟨_, _, h, _⟩ := h; exact ⟨_, h⟩
  | dK => obtain ⟨_, _, h, _⟩ := h; exact ⟨_, h⟩
  | obj => obtain ⟨_, _, _, _, _, _, h, _⟩ := h; exact ⟨_, h⟩
  | dead => exact h
theorem Wok.idx {G : Glob} {w : Wd} {S : Store} {H : Hp} (k : Wok G w S H) {n : Nat} {a : Addr} (h : w.as[n]? = some a) : ∃ c, S[n]? = some c ∧ CellOk G w H a c := by
  have hn : n < w.as.length := (List.getElem?_eq_some_iff.mp h).1
  have hs : n < S.length := by rw [← k.len]; exact hn
  exact ⟨S[n], by simp [hs], k.cells n _ _ (by simp [hs]) h⟩
theorem Wok.cellThere {G : Glob} {w : Wd} {S : Store} {H : Hp} (k : Wok G w S H) {a : Addr} (ha : a ∈ w.as) : ∃ o, H a = some o := by
  obtain ⟨n, hn, e⟩ := List.getElem_of_mem ha
  obtain ⟨c, _, q⟩ := k.idx (n := n) (a := a) (by simp [hn, e])
  exact q.there
theorem Ext.refl (w : Wd) (H : Hp) : Ext w H w H := ⟨Same.refl _, ⟨[], by simp⟩, rfl, fun _ _ h _ _ => h, fun _ _ _ h => ⟨h, fun q => q⟩, fun _ o h => ⟨o, h⟩⟩
theorem Ext.trans {w w1 w2 : Wd} {H H1 H2 : Hp} (a : Ext w H w1 H1) (b : Ext w1 H1 w2 H2) : Ext w H w2 H2 := by
  obtain ⟨t, ht⟩ := a.as
  obtain ⟨u, hu⟩ := b.as
  refine ⟨a.I.trans b.I, ⟨t ++ u, by rw [hu, ht, List.append_assoc]⟩, b.ts.trans a.ts, fun c o h n m => ?_, fun c o h n => ?_, fun c o h => ?_⟩
  · exact b.frame c o (a.frame c o h n m) (a.fresh c o h n).1 (by rw [a.ts]; exact m)
  · obtain ⟨q1, q2⟩ := a.fresh c o h n
    obtain ⟨o1, h1⟩ := a.there c o h
    obtain ⟨p1, p2⟩ := b.fresh c o1 h1 q1
    exact ⟨p1, fun z => p2 (q2 z)⟩
  · obtain ⟨o1, p1⟩ := a.there c o h
    exact b.there c o1 p1
section
variable {G : Glob} {w : Wd} {S : Store} {H : Hp} {p : Addr} {o : HO}
theorem Wok.freeI (k : Wok G w S H) (hp : H p = none) : w.I p = none := k.sub.free hp
theorem Wok.freeAs (k : Wok G w S H) (hp : H p = none) : p ∉ w.as := fun z => by
  obtain ⟨u, q⟩ := k.cellThere z
  rw [hp] at q; cases q
theorem Wok.notTs {b : Addr} {u : HO} (k : Wok G w S H) (h : H b = some u) (hu : ∀ ps, u ≠ .tbl ps) : b ∉ w.ts := fun z => by
  obtain ⟨ps, e⟩ := k.tb.tbl z
  rw [h] at e; cases e
  exact hu _ rfl
theorem Wok.freeTs (k : Wok G w S H) (hp : H p = none) : p ∉ w.ts := fun z => by
  obtain ⟨ps, e⟩ := k.tb.tbl z
  rw [hp] at e; cases e
theorem Same.upd (H : Hp) (hp : H p = none) : Same H (upd H p o) := fun b u h => by rw [upd_ne (ne_of_none h hp)]; exact h
theorem Same.upd2 {H' : Hp} (s : Same H H') (p : Addr) (o : HO) : Same (L2.upd H p o) (L2.upd H' p o) := fun b u h => by
  by_cases e : b = p
  · subst e; rw [upd_same] at h ⊢; exact h
  · rw [upd_ne e] at h ⊢; exact s b u h
theorem CellOk.grow {I I' : Wd} {H H' : Hp} {a : Addr} {c : Cell} (h : CellOk G I H a c) (si : Same I.I I'.I) (hI : I.I a = none → I'.I a = none) (hh : H' a = H a) (st : AsLe I I' := by first | exact ⟨[], (List.append_nil _).symm⟩ | exact ⟨_, rfl⟩ | assumption) : CellOk G I' H' a c := by
  cases c with
  | lst => obtain ⟨z, vs, e, r⟩ := h; exact ⟨hI z, vs, by rw [hh]; exact e, r.mono si st⟩
  | dK => obtain ⟨z, vs, e, q, r⟩ := h; exact ⟨hI z, vs, by rw [hh]; exact e, q, r.mono si st⟩
  | obj => obtain ⟨z, x, C, dx, fs, g, e, q, r⟩ := h; exact ⟨hI z, x, C, dx, fs, g, by rw [hh]; exact e, q, r.mono si st⟩
  | dead => obtain ⟨o, e⟩ := h; exact ⟨o, by rw [hh]; exact e⟩
theorem Wok.alloc (k : Wok G w S H) (hp : H p = none) : Wok G ⟨upd w.I p o, w.as, w.ts⟩ S (upd H p o) ∧ Ext w H ⟨upd w.I p o, w.as, w.ts⟩ (upd H p o) := by
  have np := k.freeAs hp
  refine ⟨⟨Same.upd2 k.sub p o, k.len, k.nd, k.tb.step rfl (Same.upd _ (k.freeI hp)) ⟨[], by simp⟩ fun P ps _ e i n => ⟨by rw [upd_ne (ne_of_none e hp)]; exact e, by show upd w.I p o P = none; rw [upd_ne (ne_of_none e hp)]; exact i, n⟩, fun n c a h1 h2 => ?_⟩, ⟨Same.upd _ (k.freeI hp), ⟨[], by simp⟩, rfl, fun b u h _ _ => ?_, fun b u h q => ⟨q, fun z => ?_⟩, fun b u h => ⟨u, ?_⟩⟩⟩
  · have ne : a ≠ p := fun z => np (z ▸ List.mem_of_getElem? h2)
    exact (k.cells n c a h1 h2).grow (Same.upd _ (k.freeI hp)) (fun z => by show upd w.I p o a = none; rw [upd_ne ne]; exact z) (upd_ne ne)
  · rw [upd_ne (ne_of_none h hp)]; exact h
  · show upd w.I p o b = none
    rw [upd_ne (ne_of_none h hp)]; exact z
  · rw [upd_ne (ne_of_none h hp)]; exact h
theorem Wok.allocX (k : Wok G w S H) (hp : H p = none) : Wok G w S (upd H p o) ∧ Ext w H w (upd H p o) := by
  have np := k.freeAs hp
  refine ⟨⟨fun b u h => ?_, k.len, k.nd, k.tb.step rfl (Same.refl _) ⟨[], by simp⟩ fun P ps _ e i n => ⟨by rw [upd_ne (ne_of_none e hp)]; exact e, i, n⟩, fun n c a h1 h2 => ?_⟩, ⟨Same.refl _, ⟨[], by simp⟩, rfl, fun b u h _ _ => ?_, fun b u h q => ⟨q, fun z => z⟩, fun b u h => ⟨u, ?_⟩⟩⟩
  · have := k.sub b u h
    rw [upd_ne (ne_of_none this hp)]; exact this
  · have ne : a ≠ p := fun z => np (z ▸ List.mem_of_getElem? h2)
    exact (k.cells n c a h1 h2).grow (Same.refl _) (fun z => z) (upd_ne ne)
  · rw [upd_ne (ne_of_none h hp)]; exact h
  · rw [upd_ne (ne_of_none h hp)]; exact h
theorem Wok.allocC (k : Wok G w S H) (hp : H p = none) {c : Cell} (hc : CellOk G w (upd H p o) p c) : Wok G ⟨w.I, w.as ++ [p], w.ts⟩ (S ++ [c]) (upd H p o) ∧ Ext w H ⟨w.I, w.as ++ [p], w.ts⟩ (upd H p o) := by
  have np := k.freeAs hp
  refine ⟨⟨fun b u h => ?_, by simp [k.len], ?_, k.tb.step rfl (Same.refl _) ⟨[p], rfl⟩ fun P ps _ e i n => ⟨by rw [upd_ne (ne_of_none e hp)]; exact e, i, by show P ∉ w.as ++ [p]; simp only [List.mem_append, List.mem_singleton, not_or]; exact ⟨n, ne_of_none e hp⟩⟩, fun n c' a h1 h2 => ?_⟩, ⟨Same.refl _, ⟨[p], rfl⟩, rfl, fun b u h _ _ => ?_, fun b u h q => ⟨?_, fun z => z⟩, fun b u h => ⟨u, ?_⟩⟩⟩
  · have := k.sub b u h
    rw [upd_ne (ne_of_none this hp)]; exact this
  · show (w.as ++ [p]).Nodup
    rw [List.nodup_append]
    exact ⟨k.nd, by simp, fun a ha b hb => by simp at hb; subst hb; exact fun z => np (z ▸ ha)⟩
  · have h2 : (w.as ++ [p])[n]? = some a := h2
    by_cases hn : n < S.length
    · rw [List.getElem?_append_left hn] at h1
      rw [List.getElem?_append_left (by rw [k.len]; exact hn)] at h2
      have ne : a ≠ p := fun z => np (z ▸ List.mem_of_getElem? h2)
      exact (k.cells n c' a h1 h2).grow (Same.refl _) (fun z => z) (upd_ne ne)
    · have e : n = S.length := by
        have := (List.getElem?_eq_some_iff.mp h1).1
        simp at this; omega
      subst e
      rw [List.getElem?_append_right (Nat.le_refl _)] at h1
      rw [List.getElem?_append_right (by rw [k.len]; exact Nat.le_refl _)] at h2
      simp [k.len] at h1 h2
      subst h1; subst h2
      exact hc.grow (Same.refl _) (fun z => z) rfl
  · rw [upd_ne (ne_of_none h hp)]; exact h
  · show b ∉ w.as ++ [p]
    simp only [List.mem_append, List.mem_singleton, not_or]
    exact ⟨q, ne_of_none h hp⟩
  · rw [upd_ne (ne_of_none h hp)]; exact h
theorem nodup_at {l : List Addr} (h : l.Nodup) {i j : Nat} {a : Addr} (hi : l[i]? = some a) (hj : l[j]? = some a) : i = j := by
  obtain ⟨h1, e1⟩ := List.getElem?_eq_some_iff.mp hi
  obtain ⟨h2, e2⟩ := List.getElem?_eq_some_iff.mp hj
  exact (List.getElem_inj h).mp (e1.trans e2.symm)
theorem Wok.write (k : Wok G w S H) {n : Nat} {c c' : Cell} {a : Addr} (hs : S[n]? = some c) (ha : w.as[n]? = some a) (hl : w.I a = none) (hc : CellOk G w (upd H a o) a c') : Wok G w (S.set n c') (upd H a o) ∧ Ext w H w (upd H a o) := by
  refine ⟨⟨fun b u h => ?_, by simp [k.len], k.nd, k.tb.step rfl (Same.refl _) ⟨[], by simp⟩ fun P ps _ e i n => ⟨by rw [upd_ne (show P ≠ a from fun z => n (by rw [z]; exact List.mem_of_getElem? ha))]; exact e, i, n⟩, fun m d b h1 h2 => ?_⟩, ⟨Same.refl _, ⟨[], by simp⟩, rfl, fun b u h q _ => ?_, fun b u h q => ⟨q, fun z => z⟩, fun b u h => ?_⟩⟩
  · have ne : b ≠ a := fun z => by rw [z, hl] at h; cases h
    rw [upd_ne ne]; exact k.sub b u h
  · by_cases e : n = m
    · subst e
      rw [List.getElem?_set_self (List.getElem?_eq_some_iff.mp hs).1] at h1
      cases h1
      rw [ha] at h2; cases h2
      exact hc
    · rw [List.getElem?_set_ne e] at h1
      have ne : b ≠ a := fun z => e (nodup_at k.nd ha (z ▸ h2))
      exact (k.cells m d b h1 h2).grow (Same.refl _) (fun z => z) (upd_ne ne)
  · have ne : b ≠ a := fun z => q (z ▸ List.mem_of_getElem? ha)
    rw [upd_ne ne]; exact h
  · by_cases e : b = a
    · subst e; exact ⟨_, upd_same⟩
    · exact ⟨u, by rw [upd_ne e]; exact h⟩
theorem Wok.freeze (k : Wok G w S H) {n : Nat} {c : Cell} {a : Addr} {o : HO} (hs : S[n]? = some c) (ha : w.as[n]? = some a) (hH : H a = some o) (hl : w.I a = none) : Wok G ⟨upd w.I a o, w.as, w.ts⟩ (S.set n .dead) H ∧ Ext w H ⟨upd w.I a o, w.as, w.ts⟩ H := by
  refine ⟨⟨fun b u h => ?_, by simp [k.len], k.nd, k.tb.step rfl (Same.upd _ hl) ⟨[], by simp⟩ fun P ps _ e i n => ⟨e, by show upd w.I a o P = none; rw [upd_ne (show P ≠ a from fun z => n (by rw [z]; exact List.mem_of_getElem? ha))]; exact i, n⟩, fun m d b h1 h2 => ?_⟩, ⟨Same.upd _ hl, ⟨[], by simp⟩, rfl, fun b u h q _ => h, fun b u h q => ⟨q, fun z => ?_⟩, fun b u h => ⟨u, h⟩⟩⟩
  · by_cases e : b = a
    · subst e
      have h : upd w.I b o b = some u := h
      rw [upd_same] at h; cases h; exact hH
    · have h : upd w.I a o b = some u := h
      rw [upd_ne e] at h; exact k.sub b u h
  · have h2 : w.as[m]? = some b := h2
    by_cases e : n = m
    · subst e
      rw [List.getElem?_set_self (List.getElem?_eq_some_iff.mp hs).1] at h1
      cases h1
      rw [ha] at h2; cases h2
      exact ⟨_, hH⟩
    · rw [List.getElem?_set_ne e] at h1
      have ne : b ≠ a := fun z => e (nodup_at k.nd ha (z ▸ h2))
      exact (k.cells m d b h1 h2).grow (Same.upd _ hl) (fun z => by show upd w.I a o b = none; rw [upd_ne ne]; exact z) rfl
  · have ne : b ≠ a := fun z => q (z ▸ List.mem_of_getElem? ha)
    show upd w.I a o b = none
    rw [upd_ne ne]; exact z
end
theorem RepD.mono {G : Glob} {w w' : Wd} {H H' : Hp} (x : Ext w H w' H') : ∀ {d : D} {v : V}, RepD G w v d → RepD G w' v d
  | .p _, _, h => Rep.mono x.I x.as h
  | .cell n, _, h => by
    obtain ⟨a, e, q⟩ := h
    obtain ⟨t, ht⟩ := x.as
    refine ⟨a, e, ?_⟩
    rw [ht, List.getElem?_append_left (List.getElem?_eq_some_iff.mp q).1]
    exact q
  | .fn, _, h => h
structure EnvOk (G : Glob) (w : Wd) (σ : L2.St) (r : Rho) : Prop where
  len : r.length = σ.length
  at_ : ∀ (i : Nat) (d : D), r[i]? = some (some d) → ∃ v, σ[i]? = some (some v) ∧ RepD G w v d
theorem EnvOk.mono {G : Glob} {w w' : Wd} {H H' : Hp} {σ : L2.St} {r : Rho} (k : EnvOk G w σ r) (x : Ext w H w' H') : EnvOk G w' σ r :=
  ⟨k.len, fun i d h => let ⟨v, e, q⟩ := k.at_ i d h; ⟨v, e, q.mono x⟩⟩
theorem EnvOk.set {G : Glob} {w : Wd} {σ : L2.St} {r : Rho} {v : V} {d : D} (k : EnvOk G w σ r) (q : RepD G w v d) (i : Nat) : EnvOk G w (σ.set i (some v)) (r.set i (some d)) := by
  refine ⟨by simp [k.len], fun j e h => ?_⟩
  by_cases hj : i = j
  · subst hj
    by_cases hl : i < r.length
    · rw [List.getElem?_set_self hl] at h
      cases h
      exact ⟨v, by rw [List.getElem?_set_self (by rw [← k.len]; exact hl)], q⟩
    · rw [List.getElem?_eq_none (by simpa using hl)] at h; cases h
  · rw [List.getElem?_set_ne hj] at h ⊢
    exact k.at_ j e h
def RepX (G : Glob) (w : Wd) (cls : Value) (dd : Option Addr) (x : Exc) : Prop :=
  (G.cls x.c).map Value.ref = some cls ∧ G.isE x.c = true ∧ ((dd = none ∧ x.ns = [] ∧ x.vs = []) ∨ ∃ d fs, dd = some d ∧ w.I d = some (.xd fs) ∧ fs.map (·.1) = x.ns ∧ Reps G w (fs.map (·.2)) x.vs)
abbrev DK := D → Store → Prop
abbrev EK := Exc → Store → Prop
abbrev WE := Rho → Store → DK → EK → Prop
abbrev WA := Rho → Store → (List D → Store → Prop) → EK → Prop
abbrev WT := Rho → Store → (Bool → Store → Prop) → EK → Prop
def Qv (G : Glob) (w : Wd) (H : Hp) (Q : VK) : DK := fun d S => ∀ v w' H', Ext w H w' H' → Wok G w' S H' → RepD G w' v d → Q v H'
def Qx (G : Glob) (w : Wd) (H : Hp) (E : XK) : EK := fun x S => ∀ cls dd w' H', Ext w H w' H' → Wok G w' S H' → RepX G w' cls dd x → E cls dd H'
def Qt (G : Glob) (w : Wd) (H : Hp) (Q : Bool → Hp → Prop) : Bool → Store → Prop := fun b S => ∀ w' H', Ext w H w' H' → Wok G w' S H' → Q b H'
def RepDs (G : Glob) (w : Wd) : List V → List D → Prop
  | [], [] => True
  | v :: vs, d :: ds => RepD G w v d ∧ RepDs G w vs ds
  | _, _ => False
theorem RepDs.mono {G : Glob} {w w' : Wd} {H H' : Hp} (x : Ext w H w' H') : ∀ {vs : List V} {ds : List D}, RepDs G w vs ds → RepDs G w' vs ds
  | [], [], _ => trivial
  | _ :: _, _ :: _, ⟨a, b⟩ => ⟨a.mono x, RepDs.mono x b⟩
  | [], _ :: _, h => h.elim
  | _ :: _, [], h => h.elim
def Qa (G : Glob) (w : Wd) (H : Hp) (Q : List V → Hp → Prop) : List D → Store → Prop := fun ds S => ∀ vs w' H', Ext w H w' H' → Wok G w' S H' → RepDs G w' vs ds → Q vs H'
theorem Qv.ext {G : Glob} {w w1 : Wd} {H H1 : Hp} {Q : VK} (x : Ext w H w1 H1) {d : D} {S : Store} (q : Qv G w H Q d S) : Qv G w1 H1 Q d S := fun v w' H' y k r => q v w' H' (x.trans y) k r
theorem Qx.ext {G : Glob} {w w1 : Wd} {H H1 : Hp} {Q : XK} (x : Ext w H w1 H1) {d : Exc} {S : Store} (q : Qx G w H Q d S) : Qx G w1 H1 Q d S := fun c v w' H' y k r => q c v w' H' (x.trans y) k r
theorem Qt.ext {G : Glob} {w w1 : Wd} {H H1 : Hp} {Q : Bool → Hp → Prop} (x : Ext w H w1 H1) {d : Bool} {S : Store} (q : Qt G w H Q d S) : Qt G w1 H1 Q d S := fun w' H' y k => q w' H' (x.trans y) k
theorem Qa.ext {G : Glob} {w w1 : Wd} {H H1 : Hp} {Q : List V → Hp → Prop} (x : Ext w H w1 H1) {d : List D} {S : Store} (q : Qa G w H Q d S) : Qa G w1 H1 Q d S := fun v w' H' y k r => q v w' H' (x.trans y) k r
def Mon (m : WE) : Prop := ∀ r S Q Q' E E', (∀ d S, Q d S → Q' d S) → (∀ x S, E x S → E' x S) → m r S Q E → m r S Q' E'
def MonT (m : WT) : Prop := ∀ r S Q Q' E E', (∀ d S, Q d S → Q' d S) → (∀ x S, E x S → E' x S) → m r S Q E → m r S Q' E'
def MonA (m : WA) : Prop := ∀ r S Q Q' E E', (∀ d S, Q d S → Q' d S) → (∀ x S, E x S → E' x S) → m r S Q E → m r S Q' E'
def tM (G : Glob) (W : WX) (m : WE) : TE := fun σ H Q => ∃ w S r, Wok G w S H ∧ EnvOk G w σ r ∧ m r S (Qv G w H Q) (Qx G w H fun c d H' => W c d σ H')
def tMt (G : Glob) (W : WX) (m : WT) : TT := fun σ H Q => ∃ w S r, Wok G w S H ∧ EnvOk G w σ r ∧ m r S (Qt G w H Q) (Qx G w H fun c d H' => W c d σ H')
def tMa (G : Glob) (W : WX) (m : WA) : TA := fun σ H Q => ∃ w S r, Wok G w S H ∧ EnvOk G w σ r ∧ m r S (Qa G w H Q) (Qx G w H fun c d H' => W c d σ H')
structure RE (G : Glob) (X : Cx) (W : WX) (e : Expr) (m : WE) : Prop where
  pe : PE X e (tM G W m)
  mono : Mon m
structure RT (G : Glob) (X : Cx) (W : WX) (e : Expr) (m : WT) : Prop where
  pe : PT X e (tMt G W m)
  mono : MonT m
structure RA (G : Glob) (X : Cx) (W : WX) (e : List Expr) (m : WA) : Prop where
  pe : PA X e (tMa G W m)
  mono : MonA m
theorem PE.imp {X : Cx} {e : Expr} {t u : TE} (h : PE X e t) (i : ∀ σ H Q, u σ H Q → t σ H Q) : PE X e u := ⟨fun pins s σ H Q I q => h.run pins s σ H Q I (i σ H Q q)⟩
theorem PT.imp {X : Cx} {e : Expr} {t u : TT} (h : PT X e t) (i : ∀ σ H Q, u σ H Q → t σ H Q) : PT X e u := ⟨fun pins s σ H Q I q => h.run pins s σ H Q I (i σ H Q q)⟩
theorem PA.imp {X : Cx} {e : List Expr} {t u : TA} (h : PA X e t) (i : ∀ σ H Q, u σ H Q → t σ H Q) : PA X e u := ⟨fun pos pins s σ H Q I q => h.run pos pins s σ H Q I (i σ H Q q)⟩
theorem tM.bind {G : Glob} {W : WX} {m : WE} (hm : Mon m) {σ : L2.St} {H : Hp} {w : Wd} {S : Store} {r : Rho} {k : DK} {E : XK} {Q : VK} (ok : Wok G w S H) (en : EnvOk G w σ r) (h : m r S k (Qx G w H E)) (hE : ∀ c d H', E c d H' → W c d σ H')
    (hk : ∀ d S' v w' H', Ext w H w' H' → Wok G w' S' H' → RepD G w' v d → k d S' → Q v H') : tM G W m σ H Q :=
  ⟨w, S, r, ok, en, hm r S _ _ _ _ (fun d S' q v w' H' x k r => hk d S' v w' H' x k r q) (fun x S' q c d w' H' x k r => hE _ _ _ (q c d w' H' x k r)) h⟩
end RB
namespace RB
open PySem PySem.Spec PyProof.Rows L2
def wC (d : D) : WE := fun _ S Q _ => Q d S
def wVar (i : Nat) : WE := fun r S Q _ => match r[i]? with
  | some (some d) => Q d S
  | _ => False
theorem mon_c (d : D) : Mon (wC d) := fun _ _ _ _ _ _ hq _ h => hq _ _ h
theorem mon_var (i : Nat) : Mon (wVar i) := fun r S Q Q' E E' hq _ h => by
  unfold wVar at h ⊢
  split at h
  · exact hq _ _ h
  · exact h.elim
section
variable {G : Glob} {X : Cx} {W : WX} {e a b c : Expr} {pos : Pos}
theorem re_c {v : V} {d : D} (h : PE X e (tC v)) (r : ∀ w, RepD G w v d) : RE G X W e (wC d) :=
  ⟨PE.imp h fun σ H Q ⟨w, S, ρ, ok, en, q⟩ => q v w H (Ext.refl w H) ok (r w), mon_c d⟩
theorem re_int {i j pos} : RE G X W (.Constant (.int i) j pos) (wC (.p (.int i))) := re_c pe_int fun w => by simp only [RepD, Rep]
theorem re_bl {i j pos} : RE G X W (.Constant (.bool i) j pos) (wC (.p (.bl i))) := re_c pe_bl fun w => by simp only [RepD, Rep]
theorem re_str {i j pos} : RE G X W (.Constant (.str i) j pos) (wC (.p (.str i))) := re_c pe_str fun w => by simp only [RepD, Rep]
theorem re_non {j pos} : RE G X W (.Constant .none j pos) (wC (.p .non)) := re_c pe_non fun w => by simp only [RepD, Rep]
theorem re_gint {x : Str} {i : Int} {t : Tok} (hg : Gl X x) (hm : X.mg x = some (.int i t)) (hd : (x == ("__debug__" : Str)) = false := by decide) : RE G X W (.Name x pos) (wC (.p (.int i))) := re_c (pe_glob (v := .int i) hg hm ⟨_, rfl⟩ hd) fun w => by simp only [RepD, Rep]
theorem re_gstr {x z : Str} {t : Tok} (hg : Gl X x) (hm : X.mg x = some (.str z t)) (hd : (x == ("__debug__" : Str)) = false := by decide) : RE G X W (.Name x pos) (wC (.p (.str z))) := re_c (pe_glob (v := .str z) hg hm ⟨_, rfl⟩ hd) fun w => by simp only [RepD, Rep]
theorem re_ty {x : Str} {n : String} (hg : Gl X x) (hm : X.mg x = none) (hv : bootBuiltins x = some (.type n)) (hn : x ≠ "__name__" := by decide) (hd : (x == ("__debug__" : Str)) = false := by decide) : RE G X W (.Name x pos) (wC (.p (.ty n))) :=
  re_c (pe_bltn (v := .ty n) hg hm hv rfl hn hd) fun w => by simp only [RepD, Rep]
theorem re_var (i : Nat) {x : Str} {pos : Pos} (hN : X.N[i]? = some x := by rfl) (hv : Vis X.env.scope x := by first | exact Or.inl rfl | exact Or.inr (Or.inl rfl) | exact Or.inr (Or.inr rfl)) (hd : (x == ("__debug__" : Str)) = false := by decide)
    (hcd : (x == ("__classdict__" : Str)) = false := by decide) : RE G X W (.Name x pos) (wVar i) := by
  refine ⟨PE.imp (pe_var hN hv hd hcd) fun σ H Q ⟨w, S, ρ, ok, en, q⟩ => ?_, mon_var i⟩
  unfold wVar at q
  split at q
  · rename_i d h
    obtain ⟨v, e, rd⟩ := en.at_ i d h
    exact ⟨v, e, q v w H (Ext.refl w H) ok rd⟩
  · exact q.elim
structure OpL (G : Glob) (X : Cx) (g : Value → Value → Sem Value) (f : D → D → Store → DK → Prop) : Prop where
  run : OpR X g (fun x y H Q => ∃ w S d1 d2, Wok G w S H ∧ RepD G w x d1 ∧ RepD G w y d2 ∧ f d1 d2 S (Qv G w H Q))
  mono : ∀ d1 d2 S Q Q', (∀ d S, Q d S → Q' d S) → f d1 d2 S Q → f d1 d2 S Q'
def wBin (f : D → D → Store → DK → Prop) (m1 m2 : WE) : WE := fun r S Q E => m1 r S (fun d1 S1 => m2 r S1 (fun d2 S2 => f d1 d2 S2 Q) E) E
theorem mon_bin {f : D → D → Store → DK → Prop} (hf : ∀ d1 d2 S Q Q', (∀ d S, Q d S → Q' d S) → f d1 d2 S Q → f d1 d2 S Q') {m1 m2 : WE} (h1 : Mon m1) (h2 : Mon m2) : Mon (wBin f m1 m2) := fun r S Q Q' E E' hq he h =>
  h1 r S _ _ _ _ (fun d1 S1 q1 => h2 r S1 _ _ _ _ (fun d2 S2 q2 => hf _ _ _ _ _ hq q2) he q1) he h
theorem tM2 {m1 m2 : WE} (h1 : Mon m1) (h2 : Mon m2) {σ : L2.St} {H : Hp} {w : Wd} {S : Store} {r : Rho} {k : D → D → Store → Prop} {R : V → V → Hp → Prop} (ok : Wok G w S H) (en : EnvOk G w σ r)
    (h : m1 r S (fun d1 S1 => m2 r S1 (fun d2 S2 => k d1 d2 S2) (Qx G w H fun c d H' => W c d σ H')) (Qx G w H fun c d H' => W c d σ H'))
    (hk : ∀ d1 d2 S' x y w' H', Ext w H w' H' → Wok G w' S' H' → RepD G w' x d1 → RepD G w' y d2 → k d1 d2 S' → R x y H') : tM G W m1 σ H fun x H1 => tM G W m2 σ H1 fun y H2 => R x y H2 := by
  refine tM.bind h1 ok en h (fun _ _ _ z => z) fun d1 S1 x w1 H1 x1 k1 r1 q1 => ?_
  refine ⟨w1, S1, r, k1, en.mono x1, h2 r S1 _ _ _ _ (fun d2 S2 q2 y w2 H2 x2 k2 r2 => ?_) (fun x S' q => q.ext x1) q1⟩
  exact hk d1 d2 S2 x y w2 H2 (x1.trans x2) k2 (r1.mono x2) r2 q2
theorem re_bin {op : Operator} {f : D → D → Store → DK → Prop} (ho : OpL G X (binaryOp op) f) {m1 m2 : WE} (ha : RE G X W a m1) (hb : RE G X W b m2) : RE G X W (.BinOp a op b pos) (wBin f m1 m2) := by
  refine ⟨PE.imp (pe_op ho.run ha.pe hb.pe) fun σ H Q ⟨w, S, ρ, ok, en, q⟩ => ?_, mon_bin ho.mono ha.mono hb.mono⟩
  exact tM2 ha.mono hb.mono ok en q fun d1 d2 S' x y w' H' x1 k r1 r2 q => ⟨w', S', d1, d2, k, r1, r2, ho.mono _ _ _ _ _ (fun d S z => z.ext x1) q⟩
theorem re_cmp {op : CmpOp} {f : D → D → Store → DK → Prop} (ho : OpL G X (compareOp op) f) {m1 m2 : WE} (ha : RE G X W a m1) (hb : RE G X W b m2) (hm : behindInMarks op b = false) : RE G X W (.Compare a [op] [b] pos) (wBin f m1 m2) := by
  refine ⟨PE.imp (pe_cmpR ho.run ha.pe hb.pe hm) fun σ H Q ⟨w, S, ρ, ok, en, q⟩ => ?_, mon_bin ho.mono ha.mono hb.mono⟩
  exact tM2 ha.mono hb.mono ok en q fun d1 d2 S' x y w' H' x1 k r1 r2 q => ⟨w', S', d1, d2, k, r1, r2, ho.mono _ _ _ _ _ (fun d S z => z.ext x1) q⟩
structure IxL (G : Glob) (X : Cx) (f : D → D → Store → DK → Prop) : Prop where
  run : IxR X (fun x y H Q => ∃ w S d1 d2, Wok G w S H ∧ RepD G w x d1 ∧ RepD G w y d2 ∧ f d1 d2 S (Qv G w H Q))
  mono : ∀ d1 d2 S Q Q', (∀ d S, Q d S → Q' d S) → f d1 d2 S Q → f d1 d2 S Q'
theorem re_ix {f : D → D → Store → DK → Prop} (ho : IxL G X f) {m1 m2 : WE} (ha : RE G X W a m1) (hb : RE G X W b m2) (hs : PlainIx b := by intro _ _; rfl) : RE G X W (.Subscript a b pos) (wBin f m1 m2) := by
  refine ⟨PE.imp (pe_ix ho.run ha.pe hb.pe hs) fun σ H Q ⟨w, S, ρ, ok, en, q⟩ => ?_, mon_bin ho.mono ha.mono hb.mono⟩
  exact tM2 ha.mono hb.mono ok en q fun d1 d2 S' x y w' H' x1 k r1 r2 q => ⟨w', S', d1, d2, k, r1, r2, ho.mono _ _ _ _ _ (fun d S z => z.ext x1) q⟩
structure UnL (G : Glob) (X : Cx) (g : Value → Sem Value) (f : D → Store → DK → Prop) : Prop where
  run : UnR X g (fun x H Q => ∃ w S d, Wok G w S H ∧ RepD G w x d ∧ f d S (Qv G w H Q))
  mono : ∀ d1 S Q Q', (∀ d S, Q d S → Q' d S) → f d1 S Q → f d1 S Q'
def wUn (f : D → Store → DK → Prop) (m : WE) : WE := fun r S Q E => m r S (fun d S1 => f d S1 Q) E
theorem mon_un {f : D → Store → DK → Prop} (hf : ∀ d1 S Q Q', (∀ d S, Q d S → Q' d S) → f d1 S Q → f d1 S Q') {m : WE} (h : Mon m) : Mon (wUn f m) := fun r S Q Q' E E' hq he h' => h r S _ _ _ _ (fun d S1 q => hf _ _ _ _ hq q) he h'
theorem re_un {op : UnaryOp} {f : D → Store → DK → Prop} (ho : UnL G X (unaryOp op) f) {m : WE} (ha : RE G X W a m) : RE G X W (.UnaryOp op a pos) (wUn f m) := by
  refine ⟨PE.imp (pe_un ho.run ha.pe) fun σ H Q ⟨w, S, ρ, ok, en, q⟩ => ?_, mon_un ho.mono ha.mono⟩
  exact tM.bind ha.mono ok en q (fun _ _ _ z => z) fun d S' v w' H' x1 k r1 q => ⟨w', S', d, k, r1, ho.mono _ _ _ _ (fun d S z => z.ext x1) q⟩
def wNil : WA := fun _ S Q _ => Q [] S
def wCons (m : WE) (t : WA) : WA := fun r S Q E => m r S (fun d S1 => t r S1 (fun ds S2 => Q (d :: ds) S2) E) E
theorem ra_nil : RA G X W [] wNil :=
  ⟨PA.imp pa_nil fun σ H Q ⟨w, S, ρ, ok, en, q⟩ => q [] w H (Ext.refl w H) ok trivial, fun _ _ _ _ _ _ hq _ h => hq _ _ h⟩
theorem ra_cons {m : WE} {t : WA} {es : List Expr} (ha : RE G X W e m) (hr : RA G X W es t) (hs : starEach (e :: es) X.env = (false, eval e X.env) :: starEach es X.env := by rfl) : RA G X W (e :: es) (wCons m t) := by
  refine ⟨PA.imp (pa_cons ha.pe hr.pe hs) fun σ H Q ⟨w, S, ρ, ok, en, q⟩ => ?_, fun r S Q Q' E E' hq he h => ha.mono r S _ _ _ _ (fun d S1 q => hr.mono r S1 _ _ _ _ (fun ds S2 q2 => hq _ _ q2) he q) he h⟩
  refine tM.bind ha.mono ok en q (fun _ _ _ z => z) fun d1 S1 x w1 H1 x1 k1 r1 q1 => ?_
  exact ⟨w1, S1, ρ, k1, en.mono x1, hr.mono ρ S1 _ _ _ _ (fun ds S2 q2 ys w2 H2 x2 k2 r2 => q2 (x :: ys) w2 H2 (x1.trans x2) k2 ⟨r1.mono x2, r2⟩) (fun x S' q => q.ext x1) q1⟩
structure CallL (G : Glob) (X : Cx) (g : Value) (f : List D → Store → DK → Prop) : Prop where
  run : CallR X g (fun xs H Q => ∃ w S ds, Wok G w S H ∧ RepDs G w xs ds ∧ f ds S (Qv G w H Q))
  mono : ∀ ds S Q Q', (∀ d S, Q d S → Q' d S) → f ds S Q → f ds S Q'
def wCB (f : List D → Store → DK → Prop) (m : WA) : WE := fun r S Q E => m r S (fun ds S1 => f ds S1 Q) E
theorem mon_cb {f : List D → Store → DK → Prop} (hf : ∀ d1 S Q Q', (∀ d S, Q d S → Q' d S) → f d1 S Q → f d1 S Q') {m : WA} (h : MonA m) : Mon (wCB f m) := fun r S Q Q' E E' hq he h' => h r S _ _ _ _ (fun d S1 q => hf _ _ _ _ hq q) he h'
theorem re_callB {x : Str} {p pos : Pos} {es : List Expr} {id : String} {f : List D → Store → DK → Prop} {m : WA} (hc : CallL G X (.builtin id) f) (hg : Gl X x) (hm : X.mg x = none) (hv : bootBuiltins x = some (.builtin id)) (ha : RA G X W (e :: es) m) (hn : x ≠ "__name__" := by decide) (hdb : (x == ("__debug__" : Str)) = false := by decide)
    (he : starEach (e :: es) X.env = (false, eval e X.env) :: starEach es X.env := by rfl) (hpl : (backTo pos (starEach es X.env)).any (·.1) = false := by rfl) : RE G X W (.Call (.Name x p) (e :: es) [] pos) (wCB f m) := by
  refine ⟨PE.imp (pe_callB hc.run hg hm hv ha.pe hn hdb he hpl) fun σ H Q ⟨w, S, ρ, ok, en, q⟩ => ?_, mon_cb hc.mono ha.mono⟩
  exact ⟨w, S, ρ, ok, en, ha.mono ρ S _ _ _ _ (fun ds S' q vs w' H' x k r => ⟨w', S', ds, k, r, hc.mono _ _ _ _ (fun d S z => z.ext x) q⟩) (fun _ _ z => z) q⟩
theorem re_callTy {x : Str} {p pos : Pos} {es : List Expr} {T : String} {f : List D → Store → DK → Prop} {m : WA} (hc : CallL G X (.type T) f) (hg : Gl X x) (hm : X.mg x = none) (hv : bootBuiltins x = some (.type T)) (ha : RA G X W (e :: es) m) (hn : x ≠ "__name__" := by decide) (hdb : (x == ("__debug__" : Str)) = false := by decide)
    (he : starEach (e :: es) X.env = (false, eval e X.env) :: starEach es X.env := by rfl) (hpl : (backTo pos (starEach es X.env)).any (·.1) = false := by rfl) : RE G X W (.Call (.Name x p) (e :: es) [] pos) (wCB f m) := by
  refine ⟨PE.imp (pe_callTy hc.run hg hm hv ha.pe hn hdb he hpl) fun σ H Q ⟨w, S, ρ, ok, en, q⟩ => ?_, mon_cb hc.mono ha.mono⟩
  exact ⟨w, S, ρ, ok, en, ha.mono ρ S _ _ _ _ (fun ds S' q vs w' H' x k r => ⟨w', S', ds, k, r, hc.mono _ _ _ _ (fun d S z => z.ext x) q⟩) (fun _ _ z => z) q⟩
def allP : List D → Option (List P)
  | [] => some []
  | .p d :: ds => (allP ds).map (d :: ·)
  | .cell _ :: _ => none
  | .fn :: _ => none
theorem RepDs.pure {w : Wd} : ∀ {ds : List D} {vs : List V} {ps : List P}, RepDs G w vs ds → allP ds = some ps → Reps G w vs ps
  | [], [], _, _, e => by simp [allP] at e; subst e; exact Reps.nil
  | .p d :: ds, v :: vs, _, ⟨h, t⟩, e => by
    simp only [allP, Option.map_eq_some_iff] at e
    obtain ⟨r, e1, rfl⟩ := e
    exact Reps.cons h (RepDs.pure t e1)
  | .cell _ :: _, _, _, _, e => by simp [allP] at e
  | .fn :: _, _, _, _, e => by simp [allP] at e
  | [], _ :: _, _, h, _ => h.elim
  | .p _ :: _, [], _, h, _ => h.elim
def wDisp (mk : List P → P) (m : WA) : WE := fun r S Q E => m r S (fun ds S1 => match allP ds with
  | some ps => ps.length ≤ sizeLine ∧ Q (.p (mk ps)) S1
  | none => False) E
theorem mon_disp (mk : List P → P) {m : WA} (h : MonA m) : Mon (wDisp mk m) := fun r S Q Q' E E' hq he h' => h r S _ _ _ _ (fun d S1 q => by
  try dsimp only at q ⊢
  split at q
  · rename_i ps e
    exact ⟨q.1, hq _ _ q.2⟩
  · exact q.elim) he h'
theorem re_tup {es : List Expr} {k : Nat} {m : WA} (ha : RA G X W es m) : RE G X W (.Tuple es k pos) (wDisp .tup m) := by
  refine ⟨PE.imp (pe_tup ha.pe) fun σ H Q ⟨w, S, ρ, ok, en, q⟩ => ?_, mon_disp _ ha.mono⟩
  refine ⟨w, S, ρ, ok, en, ha.mono ρ S _ _ _ _ (fun ds S' q vs w' H' x k r => ?_) (fun _ _ z => z) q⟩
  try dsimp only at q
  split at q
  · rename_i ps e
    have rp := RepDs.pure r e
    refine ⟨by rw [rp.length]; exact q.1, fun p hp => ?_⟩
    obtain ⟨k2, x2⟩ := k.alloc (o := .tup vs) hp
    refine q.2 (.ref p) _ _ (x.trans x2) k2 ?_
    simp only [RepD, Rep]
    exact ⟨p, vs, rfl, SqT.of upd_same, rp.mono (Same.upd _ (k.freeI hp))⟩
  · exact q.elim
theorem re_lst {es : List Expr} {m : WA} (ha : RA G X W es m) : RE G X W (.List es pos) (wDisp .lst m) := by
  refine ⟨PE.imp (pe_lst ha.pe) fun σ H Q ⟨w, S, ρ, ok, en, q⟩ => ?_, mon_disp _ ha.mono⟩
  refine ⟨w, S, ρ, ok, en, ha.mono ρ S _ _ _ _ (fun ds S' q vs w' H' x k r => ?_) (fun _ _ z => z) q⟩
  try dsimp only at q
  split at q
  · rename_i ps e
    have rp := RepDs.pure r e
    refine ⟨by rw [rp.length]; exact q.1, fun p hp => ?_⟩
    obtain ⟨k2, x2⟩ := k.alloc (o := .lst vs) hp
    refine q.2 (.ref p) _ _ (x.trans x2) k2 ?_
    simp only [RepD, Rep]
    exact ⟨p, vs, rfl, upd_same, rp.mono (Same.upd _ (k.freeI hp))⟩
  · exact q.elim
def wNewL (m : WA) : WE := fun r S Q E => m r S (fun ds S1 => match allP ds with
  | some ps => ps.length ≤ sizeLine ∧ Q (.cell S1.length) (S1 ++ [.lst ps])
  | none => False) E
theorem re_newL {es : List Expr} {m : WA} (ha : RA G X W es m) : RE G X W (.List es pos) (wNewL m) := by
  refine ⟨PE.imp (pe_lst ha.pe) fun σ H Q ⟨w, S, ρ, ok, en, q⟩ => ?_, fun r S Q Q' E E' hq he h' => ha.mono r S _ _ _ _ (fun d S1 q => ?_) he h'⟩
  · refine ⟨w, S, ρ, ok, en, ha.mono ρ S _ _ _ _ (fun ds S' q vs w' H' x k r => ?_) (fun _ _ z => z) q⟩
    try dsimp only at q
    split at q
    · rename_i ps e
      have rp := RepDs.pure r e
      refine ⟨by rw [rp.length]; exact q.1, fun p hp => ?_⟩
      obtain ⟨k2, x2⟩ := k.allocC (o := .lst vs) (c := .lst ps) hp ⟨k.freeI hp, vs, upd_same, rp⟩
      refine q.2 (.ref p) _ _ (x.trans x2) k2 ⟨p, rfl, ?_⟩
      show (w'.as ++ [p])[S'.length]? = some p
      rw [← k.len]
      simp
    · exact q.elim
  · try dsimp only at q ⊢
    split at q
    · rename_i ps e
      exact ⟨q.1, hq _ _ q.2⟩
    · exact q.elim
end
end RB
namespace RB
open PySem PySem.Spec PyProof.Rows L2
theorem OpR.or {X : Cx} {g : Value → Value → Sem Value} {r r' : R2} (h : OpR X g r) (h' : OpR X g r') : OpR X g (fun x y H Q => r x y H Q ∨ r' x y H Q) := by
  intro pins s σ H x y v u Q I rx ry q
  rcases q with q | q
  · exact h pins s σ H x y v u Q I rx ry q
  · exact h' pins s σ H x y v u Q I rx ry q
theorem OpL.mk' {G : Glob} {X : Cx} {g : Value → Value → Sem Value} {f : D → D → Store → DK → Prop} {r : R2} (h : OpR X g r)
    (i : ∀ x y H Q w S d1 d2, Wok G w S H → RepD G w x d1 → RepD G w y d2 → f d1 d2 S (Qv G w H Q) → r x y H Q) (m : ∀ d1 d2 S Q Q', (∀ d S, Q d S → Q' d S) → f d1 d2 S Q → f d1 d2 S Q') : OpL G X g f :=
  ⟨fun pins s σ H x y v u Q I rx ry ⟨w, S, d1, d2, k, r1, r2, q⟩ => h pins s σ H x y v u Q I rx ry (i x y H Q w S d1 d2 k r1 r2 q), m⟩
section
variable {G : Glob} {w : Wd} {S : Store} {H : Hp} {x : V}
theorem rep_int {i : Int} : RepD G w x (.p (.int i)) ↔ x = .int i := by simp only [RepD, Rep]
theorem rep_str {i : Str} : RepD G w x (.p (.str i)) ↔ x = .str i := by simp only [RepD, Rep]
theorem rep_bl {i : Bool} : RepD G w x (.p (.bl i)) ↔ x = .bl i := by simp only [RepD, Rep]
theorem rep_non : RepD G w x (.p .non) ↔ x = .non := by simp only [RepD, Rep]
theorem rep_ty {n : String} : RepD G w x (.p (.ty n)) ↔ x = .ty n := by simp only [RepD, Rep]
theorem rep_tup {ds : List P} : RepD G w x (.p (.tup ds)) ↔ ∃ a vs, x = .ref a ∧ SqT G.K w.I a vs ∧ Reps G w vs ds := by simp only [RepD, Rep]
theorem rep_lst {ds : List P} : RepD G w x (.p (.lst ds)) ↔ ∃ a vs, x = .ref a ∧ w.I a = some (.lst vs) ∧ Reps G w vs ds := by simp only [RepD, Rep]
theorem rep_scr {ds : List P} : RepD G w x (.p (.scr ds)) ↔ ∃ a vs, x = .ref a ∧ SqL G.K w.I a vs ∧ Reps G w vs ds := by simp only [RepD, Rep]
theorem rep_cell {n : Nat} : RepD G w x (.cell n) ↔ ∃ a, x = .ref a ∧ w.as[n]? = some a := Iff.rfl
theorem Qv.here {Q : VK} {d : D} {v : V} (q : Qv G w H Q d S) (k : Wok G w S H) (r : RepD G w v d) : Q v H := q v w H (Ext.refl w H) k r
def asL (S : Store) : D → Option (List P)
  | .p (.lst ds) => some ds
  | .p (.scr ds) => some ds
  | .cell n => match S[n]? with
    | some (.lst ds) => some ds
    | _ => none
  | _ => none
theorem asL_ok {d : D} {ds : List P} (k : Wok G w S H) (r : RepD G w x d) (h : asL S d = some ds) : ∃ a vs, x = .ref a ∧ SqL G.K H a vs ∧ Reps G w vs ds := by
  cases d with
  | p q =>
    cases q <;> simp only [asL] at h <;> first | (cases h; done) | skip
    · cases h
      obtain ⟨a, vs, e, q, rs⟩ := rep_lst.mp r
      exact ⟨a, vs, e, SqL.of (k.sub _ _ q), rs⟩
    · cases h
      obtain ⟨a, vs, e, q, rs⟩ := rep_scr.mp r
      exact ⟨a, vs, e, Same.seq k.sub q, rs⟩
  | fn => simp [asL] at h
  | cell n =>
    obtain ⟨a, e, q⟩ := rep_cell.mp r
    simp only [asL] at h
    split at h
    · rename_i ds' hs
      cases h
      obtain ⟨_, vs, hv, rs⟩ := k.cells n _ a hs q
      exact ⟨a, vs, e, SqL.of hv, rs⟩
    · cases h
def asM (S : Store) : D → Option (List P)
  | .p (.lst ds) => some ds
  | .cell n => match S[n]? with
    | some (.lst ds) => some ds
    | _ => none
  | _ => none
theorem asM_ok {d : D} {ds : List P} (k : Wok G w S H) (r : RepD G w x d) (h : asM S d = some ds) : ∃ a vs, x = .ref a ∧ H a = some (.lst vs) ∧ Reps G w vs ds := by
  cases d with
  | p q =>
    cases q <;> simp only [asM] at h <;> first | (cases h; done) | skip
    · cases h
      obtain ⟨a, vs, e, q, rs⟩ := rep_lst.mp r
      exact ⟨a, vs, e, k.sub _ _ q, rs⟩
  | fn => simp [asM] at h
  | cell n =>
    obtain ⟨a, e, q⟩ := rep_cell.mp r
    simp only [asM] at h
    split at h
    · rename_i ds' hs
      cases h
      obtain ⟨_, vs, hv, rs⟩ := k.cells n _ a hs q
      exact ⟨a, vs, e, hv, rs⟩
    · cases h
theorem new_lst {Q : VK} {ps : List P} {vs : List V} {p : Addr} (k : Wok G w S H) (q : Qv G w H Q (.p (.lst ps)) S) (r : Reps G w vs ps) (hp : H p = none) : Q (.ref p) (upd H p (.lst vs)) := by
  obtain ⟨k2, x2⟩ := k.alloc (o := .lst vs) hp
  exact q (.ref p) _ _ x2 k2 (rep_lst.mpr ⟨p, vs, rfl, upd_same, r.mono (Same.upd _ (k.freeI hp))⟩)
theorem new_tup {Q : VK} {ps : List P} {vs : List V} {p : Addr} (k : Wok G w S H) (q : Qv G w H Q (.p (.tup ps)) S) (r : Reps G w vs ps) (hp : H p = none) : Q (.ref p) (upd H p (.tup vs)) := by
  obtain ⟨k2, x2⟩ := k.alloc (o := .tup vs) hp
  exact q (.ref p) _ _ x2 k2 (rep_tup.mpr ⟨p, vs, rfl, SqT.of upd_same, r.mono (Same.upd _ (k.freeI hp))⟩)
end
def dAdd (d1 d2 : D) (S : Store) (Q : DK) : Prop := match d1, d2 with
  | .p (.int i), .p (.int j) => Q (.p (.int (i + j))) S
  | .p (.str a), .p (.str b) => a.length + b.length ≤ sizeLine ∧ Q (.p (.str (a ++ b))) S
  | .p (.tup a), .p (.tup b) => a.length + b.length ≤ sizeLine ∧ Q (.p (.tup (a ++ b))) S
  | d1, d2 => match asM S d1, asM S d2 with
    | some a, some b => a.length + b.length ≤ sizeLine ∧ Q (.p (.lst (a ++ b))) S
    | _, _ => False
section
variable {G : Glob} {X : Cx} {W : WX}
theorem ol_add (hK : X.K = G.K) : OpL G X (binaryOp .Add) dAdd := by
  refine OpL.mk' (OpR.or op_add (OpR.or op_add_str (OpR.or op_catA op_cat))) (fun x y H Q w S d1 d2 k r1 r2 h => ?_) (fun d1 d2 S Q Q' hq h => ?_)
  · unfold dAdd at h
    split at h
    · rw [rep_int] at r1 r2
      exact .inl ⟨_, _, r1, r2, h.here k (rep_int.mpr rfl)⟩
    · rw [rep_str] at r1 r2
      exact .inr (.inl ⟨_, _, r1, r2, h.1, h.2.here k (rep_str.mpr rfl)⟩)
    · obtain ⟨a, xs, rfl, q1, s1⟩ := rep_tup.mp r1
      obtain ⟨b, ys, rfl, q2, s2⟩ := rep_tup.mp r2
      have l1 := s1.length
      have l2 := s2.length
      refine .inr (.inr (.inl ⟨a, b, xs, ys, rfl, rfl, hK ▸ Same.tup k.sub q1, hK ▸ Same.tup k.sub q2, by omega, fun e => ?_, fun _ e => ?_, fun _ _ p hp => new_tup k h.2 (s1.append s2) hp⟩))
      · subst e
        exact h.2.here k (rep_tup.mpr ⟨b, ys, rfl, q2, s1.append s2⟩)
      · subst e
        refine h.2.here k (rep_tup.mpr ⟨a, xs, rfl, q1, ?_⟩)
        have : xs = xs ++ [] := by simp
        rw [this]
        exact s1.append s2
    · split at h
      · rename_i a b e1 e2
        obtain ⟨l, xs, rfl, q1, s1⟩ := asM_ok k r1 e1
        obtain ⟨m, ys, rfl, q2, s2⟩ := asM_ok k r2 e2
        have l1 := s1.length
        have l2 := s2.length
        exact .inr (.inr (.inr ⟨l, m, xs, ys, rfl, rfl, q1, q2, by omega, fun p hp => new_lst k h.2 (s1.append s2) hp⟩))
      · exact h.elim
  · unfold dAdd at h ⊢
    split at h
    · exact hq _ _ h
    · exact ⟨h.1, hq _ _ h.2⟩
    · exact ⟨h.1, hq _ _ h.2⟩
    · rename_i h1 h2 h3
      split at h
      · rename_i a b e1 e2
        exact ⟨h.1, hq _ _ h.2⟩
      · exact h.elim
def dInt (C : Int → Int → Prop) (g : Int → Int → P) (d1 d2 : D) (S : Store) (Q : DK) : Prop := match d1, d2 with
  | .p (.int i), .p (.int j) => C i j ∧ Q (.p (g i j)) S
  | _, _ => False
theorem dInt_mono {C : Int → Int → Prop} {g : Int → Int → P} (d1 d2 : D) (S : Store) (Q Q' : DK) (hq : ∀ d S, Q d S → Q' d S) (h : dInt C g d1 d2 S Q) : dInt C g d1 d2 S Q' := by
  unfold dInt at h ⊢
  split at h
  · exact ⟨h.1, hq _ _ h.2⟩
  · exact h.elim
theorem ol_int {g : Value → Value → Sem Value} {C : Int → Int → Prop} {f : Int → Int → P} {fv : Int → Int → V} (h : OpR X g (rI C fv)) (hf : ∀ w i j, RepD G w (fv i j) (.p (f i j))) : OpL G X g (dInt C f) := by
  refine OpL.mk' h (fun x y H Q w S d1 d2 k r1 r2 h => ?_) dInt_mono
  unfold dInt at h
  split at h
  · rw [rep_int] at r1 r2
    exact ⟨_, _, r1, r2, h.1, h.2.here k (hf _ _ _)⟩
  · exact h.elim
theorem ol_int0 {g : Value → Value → Sem Value} {f : Int → Int → P} {fv : Int → Int → V} (h : OpR X g (rI0 fv)) (hf : ∀ w i j, RepD G w (fv i j) (.p (f i j))) : OpL G X g (dInt (fun _ _ => True) f) := by
  refine OpL.mk' h (fun x y H Q w S d1 d2 k r1 r2 h => ?_) dInt_mono
  unfold dInt at h
  split at h
  · rw [rep_int] at r1 r2
    exact ⟨_, _, r1, r2, h.2.here k (hf _ _ _)⟩
  · exact h.elim
theorem ol_sub : OpL G X (binaryOp .Sub) (dInt (fun _ _ => True) fun i j => .int (i - j)) := ol_int0 op_sub fun _ _ _ => rep_int.mpr rfl
theorem ol_fdiv : OpL G X (binaryOp .FloorDiv) (dInt CDivW fun i j => .int (i / j)) := ol_int op_fdivW fun _ _ _ => rep_int.mpr rfl
theorem ol_mod : OpL G X (binaryOp .Mod) (dInt (fun _ j => 0 < j) fun i j => .int (i % j)) := ol_int op_mod fun _ _ _ => rep_int.mpr rfl
theorem ol_pow : OpL G X (binaryOp .Pow) (dInt CPow fun i j => .int (i ^ j.toNat)) := ol_int op_pow fun _ _ _ => rep_int.mpr rfl
def dMul (d1 d2 : D) (S : Store) (Q : DK) : Prop := match d1, d2 with
  | .p (.int i), .p (.int j) => (CMul i j ∨ CMulW i j) ∧ Q (.p (.int (i * j))) S
  | d1, .p (.int j) => match asM S d1 with
    | some a => -(2 ^ 63) ≤ j ∧ j < 2 ^ 63 ∧ a.length * j.toNat ≤ sizeLine ∧ Q (.p (.lst (List.replicate j.toNat a).flatten)) S
    | none => False
  | _, _ => False
theorem Reps.rep {I : Wd} {vs : List V} {ds : List P} (r : Reps G I vs ds) : ∀ n : Nat, Reps G I (List.replicate n vs).flatten (List.replicate n ds).flatten
  | 0 => Reps.nil
  | n + 1 => by
    rw [List.replicate_succ, List.replicate_succ, List.flatten_cons, List.flatten_cons]
    exact r.append (Reps.rep r n)
theorem ol_mul : OpL G X (binaryOp .Mult) dMul := by
  refine OpL.mk' (OpR.or op_mul (OpR.or op_mulW op_rep)) (fun x y H Q w S d1 d2 k r1 r2 h => ?_) (fun d1 d2 S Q Q' hq h => ?_)
  · unfold dMul at h
    split at h
    · rw [rep_int] at r1 r2
      obtain ⟨c | c, h⟩ := h
      · exact .inl ⟨_, _, r1, r2, c, h.here k (rep_int.mpr rfl)⟩
      · exact .inr (.inl ⟨_, _, r1, r2, c, h.here k (rep_int.mpr rfl)⟩)
    · split at h
      · rename_i a e1
        obtain ⟨l, xs, rfl, q1, s1⟩ := asM_ok k r1 e1
        rw [rep_int] at r2
        obtain ⟨h1, h2, h3, h4⟩ := h
        exact .inr (.inr ⟨l, _, xs, rfl, r2, q1, h1, h2, by rw [s1.length]; exact h3, fun p hp => new_lst k h4 (s1.rep _) hp⟩)
      · exact h.elim
    · exact h.elim
  · unfold dMul at h ⊢
    split at h
    · exact ⟨h.1, hq _ _ h.2⟩
    · split at h
      · exact ⟨h.1, h.2.1, h.2.2.1, hq _ _ h.2.2.2⟩
      · exact h.elim
    · exact h.elim
def dNeg (d : D) (S : Store) (Q : DK) : Prop := match d with
  | .p (.int i) => Q (.p (.int (-i))) S
  | _ => False
theorem ul_neg : UnL G X (unaryOp .USub) dNeg := by
  refine ⟨fun pins s σ H x v Q I rx ⟨w, S, d, k, r, h⟩ => ?_, fun d S Q Q' hq h => ?_⟩
  · unfold dNeg at h
    split at h
    · rw [rep_int] at r
      exact un_neg pins s σ H x v Q I rx ⟨_, r, h.here k (rep_int.mpr rfl)⟩
    · exact h.elim
  · unfold dNeg at h ⊢
    split at h
    · exact hq _ _ h
    · exact h.elim
theorem ol_lt : OpL G X (compareOp .Lt) (dInt (fun _ _ => True) fun i j => .bl (decide (i < j))) := ol_int0 op_lt fun _ _ _ => rep_bl.mpr rfl
theorem ol_le : OpL G X (compareOp .LtE) (dInt (fun _ _ => True) fun i j => .bl (decide (i ≤ j))) := ol_int0 op_le fun _ _ _ => rep_bl.mpr rfl
theorem ol_gt : OpL G X (compareOp .Gt) (dInt (fun _ _ => True) fun i j => .bl (decide (j < i))) := ol_int0 op_gt fun _ _ _ => rep_bl.mpr rfl
theorem ol_ge : OpL G X (compareOp .GtE) (dInt (fun _ _ => True) fun i j => .bl (decide (j ≤ i))) := ol_int0 op_ge fun _ _ _ => rep_bl.mpr rfl
mutual
def pd : P → Option PyData
  | .non => some .none
  | .bl b => some (.bool b)
  | .int i => some (.int i)
  | .str x => some (.str x)
  | .lst xs => (pds xs).map .list
  | .scr xs => (pds xs).map .list
  | .tup xs => (pds xs).map .tuple
  | .ty _ | .dK _ _ | .dT _ _ | .fK _ _ | .obj _ _ _ | .cel _ => none
def pds : List P → Option (List PyData)
  | [] => some []
  | d :: ds => match pd d, pds ds with
    | some x, some xs => some (x :: xs)
    | _, _ => none
end
mutual
theorem pd_ok {K : PySem.W.Frag} (hK : G.K = K) {I : Wd} {H : Hp} (s : Same I.I H) : ∀ {d : P} {v : V} {e : PyData}, Rep G I v d → pd d = some e → Dp K H v e
  | .non, _, _, h, q => by simp only [Rep, pd] at h q; cases q; subst h; exact .non
  | .bl _, _, _, h, q => by simp only [Rep, pd] at h q; cases q; subst h; exact .bl _
  | .int _, _, _, h, q => by simp only [Rep, pd] at h q; cases q; subst h; exact .int _
  | .str _, _, _, h, q => by simp only [Rep, pd] at h q; cases q; subst h; exact .str _
  | .lst ds, _, _, h, q => by
    simp only [Rep, pd, Option.map_eq_some_iff] at h q
    obtain ⟨a, vs, e, z, r⟩ := h
    obtain ⟨es, e1, e2⟩ := q
    subst e; subst e2
    exact .lst (SqL.of (s _ _ z)) (pds_ok hK s r e1)
  | .scr ds, _, _, h, q => by
    simp only [Rep, pd, Option.map_eq_some_iff] at h q
    obtain ⟨a, vs, e, z, r⟩ := h
    obtain ⟨es, e1, e2⟩ := q
    subst e; subst e2
    exact .lst (Same.seq s (hK ▸ z)) (pds_ok hK s r e1)
  | .tup ds, _, _, h, q => by
    simp only [Rep, pd, Option.map_eq_some_iff] at h q
    obtain ⟨a, vs, e, z, r⟩ := h
    obtain ⟨es, e1, e2⟩ := q
    subst e; subst e2
    exact .tup (Same.tup s (hK ▸ z)) (pds_ok hK s r e1)
  | .ty _, _, _, _, q => by simp [pd] at q
  | .dK _ _, _, _, _, q => by simp [pd] at q
  | .fK _ _, _, _, _, q => by simp [pd] at q
  | .dT _ _, _, _, _, q => by simp [pd] at q
  | .obj _ _ _, _, _, _, q => by simp [pd] at q
  | .cel _, _, _, _, q => by simp [pd] at q
theorem pds_ok {K : PySem.W.Frag} (hK : G.K = K) {I : Wd} {H : Hp} (s : Same I.I H) : ∀ {ds : List P} {vs : List V} {es : List PyData}, Reps G I vs ds → pds ds = some es → DpAll K H vs es
  | [], _, _, h, q => by simp only [Reps, pds] at h q; cases q; subst h; exact .nil
  | d :: ds, _, _, h, q => by
    simp only [Reps, pds] at h q
    obtain ⟨v, r, e, h1, h2⟩ := h
    subst e
    split at q
    · rename_i x xs e1 e2
      cases q
      exact .cons (pd_ok hK s h1 e1) (pds_ok hK s h2 e2)
    · cases q
end
def pdD (S : Store) : D → Option PyData
  | .p d => pd d
  | .cell n => match S[n]? with
    | some (.lst ds) => (pds ds).map .list
    | _ => none
  | .fn => none
theorem pdD_ok {K : PySem.W.Frag} (hK : G.K = K) {w : Wd} {S : Store} {H : Hp} (k : Wok G w S H) {d : D} {v : V} {e : PyData} (r : RepD G w v d) (q : pdD S d = some e) : Dp K H v e := by
  cases d with
  | p d => exact pd_ok hK k.sub r q
  | fn => simp [pdD] at q
  | cell n =>
    obtain ⟨a, e1, z⟩ := rep_cell.mp r
    simp only [pdD] at q
    split at q
    · rename_i ds hs
      obtain ⟨_, vs, hv, rs⟩ := k.cells n _ a hs z
      rw [Option.map_eq_some_iff] at q
      obtain ⟨es, e2, e3⟩ := q
      subst e1; subst e3
      exact .lst (SqL.of hv) (pds_ok hK k.sub rs e2)
    · cases q
def dEqv (neg : Bool) (d1 d2 : D) (S : Store) (Q : DK) : Prop := match pdD S d1, pdD S d2 with
  | some e1, some e2 => SeqAt.shaped e1 = true ∧ SeqAt.shaped e2 = true ∧ Q (.p (.bl (if neg then !PyData.eqv e1 e2 else PyData.eqv e1 e2))) S
  | _, _ => False
theorem dEqv_mono (neg : Bool) (d1 d2 : D) (S : Store) (Q Q' : DK) (hq : ∀ d S, Q d S → Q' d S) (h : dEqv neg d1 d2 S Q) : dEqv neg d1 d2 S Q' := by
  unfold dEqv at h ⊢
  split at h
  · exact ⟨h.1, h.2.1, hq _ _ h.2.2⟩
  · exact h.elim
theorem ol_eq (hK : X.K = G.K) (hu : X.A.units + 64 < cLine) : OpL G X (compareOp .Eq) (dEqv false) := by
  refine OpL.mk' (op_eqD hu) (fun x y H Q w S d1 d2 k r1 r2 h => ?_) (dEqv_mono _)
  unfold dEqv at h
  split at h
  · rename_i e1 e2 q1 q2
    exact ⟨e1, e2, pdD_ok hK.symm k r1 q1, pdD_ok hK.symm k r2 q2, h.1, h.2.1, h.2.2.here k (rep_bl.mpr rfl)⟩
  · exact h.elim
theorem ol_ne (hK : X.K = G.K) (hu : X.A.units + 64 < cLine) : OpL G X (compareOp .NotEq) (dEqv true) := by
  refine OpL.mk' (op_neD hu) (fun x y H Q w S d1 d2 k r1 r2 h => ?_) (dEqv_mono _)
  unfold dEqv at h
  split at h
  · rename_i e1 e2 q1 q2
    exact ⟨e1, e2, pdD_ok hK.symm k r1 q1, pdD_ok hK.symm k r2 q2, h.1, h.2.1, h.2.2.here k (rep_bl.mpr rfl)⟩
  · exact h.elim
def isNon : D → Bool
  | .p .non => true
  | _ => false
theorem isNon_ok {w : Wd} {x : V} {d : D} (r : RepD G w x d) : decide (x = .non) = isNon d := by
  cases d with
  | cell n => obtain ⟨a, rfl, _⟩ := rep_cell.mp r; rfl
  | fn =>
    have r : x = .ref G.fa := r
    subst r
    rfl
  | p q =>
    cases q <;> simp only [RepD, Rep] at r
    · subst r; rfl
    · subst r; rfl
    · subst r; rfl
    · subst r; rfl
    · subst r; rfl
    · obtain ⟨a, _, rfl, _⟩ := r; rfl
    · obtain ⟨a, _, rfl, _⟩ := r; rfl
    · obtain ⟨a, _, rfl, _⟩ := r; rfl
    · obtain ⟨a, _, rfl, _⟩ := r; rfl
    · obtain ⟨a, _, rfl, _⟩ := r; rfl
    · obtain ⟨a, _, _, rfl, _⟩ := r; rfl
    · obtain ⟨_, a, rfl, _⟩ := r; rfl
    · obtain ⟨a, _, _, rfl, _⟩ := r; rfl
def dIsN (neg : Bool) (d1 d2 : D) (S : Store) (Q : DK) : Prop := match d2 with
  | .p .non => Q (.p (.bl (if neg then !isNon d1 else isNon d1))) S
  | .p (.bl b) => match d1 with
    | .p (.bl a) => neg = false ∧ Q (.p (.bl (decide (a = b)))) S
    | _ => False
  | _ => False
theorem dIsN_mono (neg : Bool) (d1 d2 : D) (S : Store) (Q Q' : DK) (hq : ∀ d S, Q d S → Q' d S) (h : dIsN neg d1 d2 S Q) : dIsN neg d1 d2 S Q' := by
  unfold dIsN at h ⊢
  split at h
  · exact hq _ _ h
  · split at h
    · exact ⟨h.1, hq _ _ h.2⟩
    · exact h.elim
  · exact h.elim
theorem ol_notN : OpL G X (compareOp .IsNot) (dIsN true) := by
  refine OpL.mk' op_notN (fun x y H Q w S d1 d2 k r1 r2 h => ?_) (dIsN_mono _)
  unfold dIsN at h
  split at h
  · exact ⟨rep_non.mp r2, by rw [isNon_ok r1]; exact h.here k (rep_bl.mpr rfl)⟩
  · split at h
    · cases h.1
    · exact h.elim
  · exact h.elim
end
end RB
namespace RB
open PySem PySem.Spec PyProof.Rows L2
section
variable {G : Glob} {X : Cx} {W : WX} {e a b c : Expr} {pos : Pos}
def wTest (m : WE) : WT := fun r S Q E => m r S (fun d S1 => match d with
  | .p (.bl b) => Q b S1
  | _ => False) E
theorem mon_test {m : WE} (h : Mon m) : MonT (wTest m) := fun r S Q Q' E E' hq he h' => h r S _ _ _ _ (fun d S1 q => by
  split at q
  · exact hq _ _ q
  · exact q.elim) he h'
theorem tM.test {m : WE} (hm : Mon m) {σ : L2.St} {H : Hp} {Q : Bool → Hp → Prop} (h : tMt G W (wTest m) σ H Q) : tM G W m σ H fun x H' => ∃ k, x = .bl k ∧ Q k H' := by
  obtain ⟨w, S, ρ, ok, en, q⟩ := h
  refine tM.bind hm ok en q (fun _ _ _ z => z) fun d S' v w' H' x k r q => ?_
  split at q
  · exact ⟨_, rep_bl.mp r, q w' H' x k⟩
  · exact q.elim
theorem rt_val {m : WE} (h : RE G X W e m) (he : ∀ whole, isTrue e X.env whole = (do let v ← whole; standAt e.pos; holding [v] (truthy v)) := by intro _; rfl) : RT G X W e (wTest m) :=
  ⟨PT.imp (pt_val h.pe he) fun σ H Q q => tM.test h.mono q, mon_test h.mono⟩
theorem rt_cmp {op : CmpOp} {f : D → D → Store → DK → Prop} (ho : OpL G X (compareOp op) f) {m1 m2 : WE} (ha : RE G X W a m1) (hb : RE G X W b m2) (hm : behindInMarks op b = false) : RT G X W (.Compare a [op] [b] pos) (wTest (wBin f m1 m2)) := by
  refine ⟨PT.imp (pt_cmpR ho.run ha.pe hb.pe hm) fun σ H Q ⟨w, S, ρ, ok, en, q⟩ => ?_, mon_test (mon_bin ho.mono ha.mono hb.mono)⟩
  refine tM2 ha.mono hb.mono ok en q fun d1 d2 S' x y w' H' x1 k r1 r2 q => ⟨w', S', d1, d2, k, r1, r2, ho.mono _ _ _ _ _ (fun d S z v w2 H2 x2 k2 r => ?_) q⟩
  split at z
  · exact ⟨_, rep_bl.mp r, z w2 H2 (x1.trans x2) k2⟩
  · exact z.elim
structure RW (G : Glob) (X : Cx) (W : WX) (e : Expr) (m : WT) : Prop where
  pw : PW X e (tMt G W m)
  mono : MonT m
theorem PW.imp {X : Cx} {e : Expr} {t u : TT} (h : PW X e t) (i : ∀ σ H Q, u σ H Q → t σ H Q) : PW X e u := ⟨fun wh pins s σ H Q I q => h.run wh pins s σ H Q I (i σ H Q q)⟩
theorem RW.rt {m : WT} (h : RW G X W e m) : RT G X W e m := ⟨h.pw.pt, h.mono⟩
def wAnd (t u : WT) : WT := fun r S Q E => t r S (fun b S1 => if b = true then u r S1 Q E else Q false S1) E
def wOr (t u : WT) : WT := fun r S Q E => t r S (fun b S1 => if b = true then Q true S1 else u r S1 Q E) E
def wNot (t : WT) : WT := fun r S Q E => t r S (fun b S1 => Q (!b) S1) E
theorem mon_and {t u : WT} (h1 : MonT t) (h2 : MonT u) : MonT (wAnd t u) := fun r S Q Q' E E' hq he h => h1 r S _ _ _ _ (fun b S1 q => by
  split at q
  · rename_i hb; rw [if_pos hb]; exact h2 r S1 _ _ _ _ hq he q
  · rename_i hb; rw [if_neg hb]; exact hq _ _ q) he h
theorem mon_or {t u : WT} (h1 : MonT t) (h2 : MonT u) : MonT (wOr t u) := fun r S Q Q' E E' hq he h => h1 r S _ _ _ _ (fun b S1 q => by
  split at q
  · rename_i hb; rw [if_pos hb]; exact hq _ _ q
  · rename_i hb; rw [if_neg hb]; exact h2 r S1 _ _ _ _ hq he q) he h
theorem tMt.bind {m : WT} (hm : MonT m) {σ : L2.St} {H : Hp} {w : Wd} {S : Store} {r : Rho} {k : Bool → Store → Prop} {E : XK} {Q : Bool → Hp → Prop} (ok : Wok G w S H) (en : EnvOk G w σ r) (h : m r S k (Qx G w H E)) (hE : ∀ c d H', E c d H' → W c d σ H')
    (hk : ∀ b S' w' H', Ext w H w' H' → Wok G w' S' H' → k b S' → Q b H') : tMt G W m σ H Q :=
  ⟨w, S, r, ok, en, hm r S _ _ _ _ (fun d S' q w' H' x k => hk d S' w' H' x k q) (fun x S' q c d w' H' x k r => hE _ _ _ (q c d w' H' x k r)) h⟩
variable {rest : List Expr}
theorem rw_and1 {t : WT} (ha : RT G X W a t) : RW G X W (.BoolOp .And [a] pos) t := ⟨pw_and1 ha.pe, ha.mono⟩
theorem rw_or1 {t : WT} (ha : RT G X W a t) : RW G X W (.BoolOp .Or [a] pos) t := ⟨pw_or1 ha.pe, ha.mono⟩
theorem rw_and {t u : WT} (ha : RT G X W a t) (hb : RW G X W (.BoolOp .And (b :: rest) pos) u) : RW G X W (.BoolOp .And (a :: b :: rest) pos) (wAnd t u) := by
  refine ⟨PW.imp (pw_and ha.pe hb.pw) fun σ H Q ⟨w, S, ρ, ok, en, q⟩ => ?_, mon_and ha.mono hb.mono⟩
  refine tMt.bind ha.mono ok en q (fun _ _ _ z => z) fun b S' w' H' x k q => ?_
  split at q
  · rename_i hb'; rw [if_pos hb']; exact ⟨w', S', ρ, k, en.mono x, hb.mono ρ S' _ _ _ _ (fun d S z => z.ext x) (fun y S' q => q.ext x) q⟩
  · rename_i hb'; rw [if_neg hb']; exact q w' H' x k
theorem rw_or {t u : WT} (ha : RT G X W a t) (hb : RW G X W (.BoolOp .Or (b :: rest) pos) u) : RW G X W (.BoolOp .Or (a :: b :: rest) pos) (wOr t u) := by
  refine ⟨PW.imp (pw_or ha.pe hb.pw) fun σ H Q ⟨w, S, ρ, ok, en, q⟩ => ?_, mon_or ha.mono hb.mono⟩
  refine tMt.bind ha.mono ok en q (fun _ _ _ z => z) fun b S' w' H' x k q => ?_
  split at q
  · rename_i hb'; rw [if_pos hb']; exact q w' H' x k
  · rename_i hb'; rw [if_neg hb']; exact ⟨w', S', ρ, k, en.mono x, hb.mono ρ S' _ _ _ _ (fun d S z => z.ext x) (fun y S' q => q.ext x) q⟩
theorem rt_not {t : WT} (ha : RT G X W a t) : RT G X W (.UnaryOp .Not a pos) (wNot t) := by
  refine ⟨PT.imp (pt_not ha.pe) fun σ H Q ⟨w, S, ρ, ok, en, q⟩ => ?_, fun r S Q Q' E E' hq he h => ha.mono r S _ _ _ _ (fun b S1 q => hq _ _ q) he h⟩
  exact tMt.bind ha.mono ok en q (fun _ _ _ z => z) fun b S' w' H' x k q => q w' H' x k
def wAndV (m1 m2 : WE) : WE := fun r S Q E => m1 r S (fun d S1 => match d with
  | .p (.bl true) => m2 r S1 Q E
  | .p (.bl false) => Q (.p (.bl false)) S1
  | _ => False) E
def wOrV (m1 m2 : WE) : WE := fun r S Q E => m1 r S (fun d S1 => match d with
  | .p (.bl true) => Q (.p (.bl true)) S1
  | .p (.bl false) => m2 r S1 Q E
  | _ => False) E
theorem re_one {op} {m : WE} (h : RE G X W a m) : RE G X W (.BoolOp op [a] pos) m := ⟨pe_one h.pe, h.mono⟩
theorem re_and {m1 m2 : WE} (ha : RE G X W a m1) (hb : RE G X W (.BoolOp .And (b :: rest) pos) m2) : RE G X W (.BoolOp .And (a :: b :: rest) pos) (wAndV m1 m2) := by
  refine ⟨PE.imp (pe_and ha.pe hb.pe) fun σ H Q ⟨w, S, ρ, ok, en, q⟩ => ?_, fun r S Q Q' E E' hq he h => ha.mono r S _ _ _ _ (fun d S1 q => ?_) he h⟩
  · refine tM.bind ha.mono ok en q (fun _ _ _ z => z) fun d S' v w' H' x k r q => ?_
    split at q
    · exact ⟨true, rep_bl.mp r, iteT ⟨w', S', ρ, k, en.mono x, hb.mono ρ S' _ _ _ _ (fun d S z => z.ext x) (fun y S' q => q.ext x) q⟩⟩
    · exact ⟨false, rep_bl.mp r, iteF (q _ w' H' x k (rep_bl.mpr rfl))⟩
    · exact q.elim
  · split at q
    · exact hb.mono r S1 _ _ _ _ hq he q
    · exact hq _ _ q
    · exact q.elim
theorem re_or {m1 m2 : WE} (ha : RE G X W a m1) (hb : RE G X W (.BoolOp .Or (b :: rest) pos) m2) : RE G X W (.BoolOp .Or (a :: b :: rest) pos) (wOrV m1 m2) := by
  refine ⟨PE.imp (pe_or ha.pe hb.pe) fun σ H Q ⟨w, S, ρ, ok, en, q⟩ => ?_, fun r S Q Q' E E' hq he h => ha.mono r S _ _ _ _ (fun d S1 q => ?_) he h⟩
  · refine tM.bind ha.mono ok en q (fun _ _ _ z => z) fun d S' v w' H' x k r q => ?_
    split at q
    · exact ⟨true, rep_bl.mp r, iteT (q _ w' H' x k (rep_bl.mpr rfl))⟩
    · exact ⟨false, rep_bl.mp r, iteF ⟨w', S', ρ, k, en.mono x, hb.mono ρ S' _ _ _ _ (fun d S z => z.ext x) (fun y S' q => q.ext x) q⟩⟩
    · exact q.elim
  · split at q
    · exact hq _ _ q
    · exact hb.mono r S1 _ _ _ _ hq he q
    · exact q.elim
def wNotV (m : WE) : WE := fun r S Q E => m r S (fun d S1 => match d with
  | .p (.bl b) => Q (.p (.bl (!b))) S1
  | _ => False) E
theorem re_not {m : WE} (ha : RE G X W a m) : RE G X W (.UnaryOp .Not a pos) (wNotV m) := by
  refine ⟨PE.imp (pe_not ha.pe) fun σ H Q ⟨w, S, ρ, ok, en, q⟩ => ?_, fun r S Q Q' E E' hq he h => ha.mono r S _ _ _ _ (fun d S1 q => ?_) he h⟩
  · refine tM.bind ha.mono ok en q (fun _ _ _ z => z) fun d S' v w' H' x k r q => ?_
    split at q
    · exact ⟨_, rep_bl.mp r, q _ w' H' x k (rep_bl.mpr rfl)⟩
    · exact q.elim
  · split at q
    · exact hq _ _ q
    · exact q.elim
def wIf (t : WT) (m1 m2 : WE) : WE := fun r S Q E => t r S (fun b S1 => if b = true then m1 r S1 Q E else m2 r S1 Q E) E
theorem re_ifx {t : WT} {m1 m2 : WE} (hc : RT G X W c t) (ha : RE G X W a m1) (hb : RE G X W b m2) : RE G X W (.IfExp c a b pos) (wIf t m1 m2) := by
  refine ⟨PE.imp (pe_ifExp hc.pe ha.pe hb.pe) fun σ H Q ⟨w, S, ρ, ok, en, q⟩ => ?_, fun r S Q Q' E E' hq he h => hc.mono r S _ _ _ _ (fun d S1 q => ?_) he h⟩
  · refine tMt.bind hc.mono ok en q (fun _ _ _ z => z) fun b S' w' H' x k q => ?_
    split at q
    · rename_i hb'; rw [if_pos hb']; exact ⟨w', S', ρ, k, en.mono x, ha.mono ρ S' _ _ _ _ (fun d S z => z.ext x) (fun y S' q => q.ext x) q⟩
    · rename_i hb'; rw [if_neg hb']; exact ⟨w', S', ρ, k, en.mono x, hb.mono ρ S' _ _ _ _ (fun d S z => z.ext x) (fun y S' q => q.ext x) q⟩
  · split at q
    · rename_i z; rw [if_pos z]; exact ha.mono r S1 _ _ _ _ hq he q
    · rename_i z; rw [if_neg z]; exact hb.mono r S1 _ _ _ _ hq he q
def wChain (f g : D → D → Store → DK → Prop) (m1 m2 m3 : WE) : WE := fun r S Q E => m1 r S (fun d1 S1 => m2 r S1 (fun d2 S2 => f d1 d2 S2 (fun z S3 => match z with
  | .p (.bl true) => m3 r S3 (fun d3 S4 => g d2 d3 S4 Q) E
  | .p (.bl false) => Q (.p (.bl false)) S3
  | _ => False)) E) E
theorem mon_chain {f g : D → D → Store → DK → Prop} (hf : ∀ d1 d2 S Q Q', (∀ d S, Q d S → Q' d S) → f d1 d2 S Q → f d1 d2 S Q') (hg : ∀ d1 d2 S Q Q', (∀ d S, Q d S → Q' d S) → g d1 d2 S Q → g d1 d2 S Q') {m1 m2 m3 : WE} (h1 : Mon m1) (h2 : Mon m2) (h3 : Mon m3) : Mon (wChain f g m1 m2 m3) := fun r S Q Q' E E' hq he h =>
  h1 r S _ _ _ _ (fun d1 S1 q1 => h2 r S1 _ _ _ _ (fun d2 S2 q2 => hf _ _ _ _ _ (fun z S3 q3 => by
    split at q3
    · exact h3 r S3 _ _ _ _ (fun d3 S4 q4 => hg _ _ _ _ _ hq q4) he q3
    · exact hq _ _ q3
    · exact q3.elim) q2) he q1) he h
theorem chain_in {op op' : CmpOp} {f g : D → D → Store → DK → Prop} (ho : OpL G X (compareOp op) f) (ho' : OpL G X (compareOp op') g) {m1 m2 m3 : WE} (h1 : Mon m1) (h2 : Mon m2) (h3 : Mon m3) {σ : L2.St} {H : Hp} {Q : VK} (h : tM G W (wChain f g m1 m2 m3) σ H Q) :
    tChain (fun x y H Q => ∃ w S d1 d2, Wok G w S H ∧ RepD G w x d1 ∧ RepD G w y d2 ∧ f d1 d2 S (Qv G w H Q)) (fun x y H Q => ∃ w S d1 d2, Wok G w S H ∧ RepD G w x d1 ∧ RepD G w y d2 ∧ g d1 d2 S (Qv G w H Q)) (tM G W m1) (tM G W m2) (tM G W m3) σ H Q := by
  obtain ⟨w, S, ρ, ok, en, q⟩ := h
  refine tM2 h1 h2 ok en q fun d1 d2 S' x y w' H' x1 k r1 r2 q => ⟨w', S', d1, d2, k, r1, r2, ho.mono _ _ _ _ _ (fun z S3 q3 v w3 H3 x3 k3 r3 => ?_) q⟩
  split at q3
  · refine ⟨true, rep_bl.mp r3, iteT ?_⟩
    refine ⟨w3, S3, ρ, k3, en.mono (x1.trans x3), h3 ρ S3 _ _ _ _ (fun d3 S4 q4 u w4 H4 x4 k4 r4 => ?_) (fun y S' q => q.ext (x1.trans x3)) q3⟩
    exact ⟨w4, S4, d2, d3, k4, r2.mono (x3.trans x4), r4, ho'.mono _ _ _ _ _ (fun d S z => z.ext ((x1.trans x3).trans x4)) q4⟩
  · exact ⟨false, rep_bl.mp r3, iteF (q3 _ w3 H3 (x1.trans x3) k3 (rep_bl.mpr rfl))⟩
  · exact q3.elim
theorem rt_chain {op op' : CmpOp} {f g : D → D → Store → DK → Prop} (ho : OpL G X (compareOp op) f) (ho' : OpL G X (compareOp op') g) {m1 m2 m3 : WE} (ha : RE G X W a m1) (hb : RE G X W b m2) (hc : RE G X W c m3) (hm : lastMarks [op, op'] [b, c] = false := by with_unfolding_all rfl) :
    RT G X W (.Compare a [op, op'] [b, c] pos) (wTest (wChain f g m1 m2 m3)) :=
  ⟨PT.imp (pt_chain ho.run ho'.run ha.pe hb.pe hc.pe hm) fun σ H Q h => chain_in ho ho' ha.mono hb.mono hc.mono (tM.test (mon_chain ho.mono ho'.mono ha.mono hb.mono hc.mono) h), mon_test (mon_chain ho.mono ho'.mono ha.mono hb.mono hc.mono)⟩
theorem ol_isN : OpL G X (compareOp .Is) (dIsN false) := by
  refine OpL.mk' (OpR.or op_isN op_is_bl) (fun x y H Q w S d1 d2 k r1 r2 h => ?_) (dIsN_mono _)
  unfold dIsN at h
  split at h
  · exact .inl ⟨rep_non.mp r2, by rw [isNon_ok r1]; exact h.here k (rep_bl.mpr rfl)⟩
  · split at h
    · exact .inr ⟨_, _, rep_bl.mp r1, rep_bl.mp r2, h.2.here k (rep_bl.mpr rfl)⟩
    · exact h.elim
  · exact h.elim
def dInS (neg : Bool) (d1 d2 : D) (S : Store) (Q : DK) : Prop := match d1, d2 with
  | .p (.str x), .p (.str z) => ∃ n : Nat, x = ⟨#[n]⟩ ∧ Q (.p (.bl (if neg then !decide (n ∈ z.cps.toList) else decide (n ∈ z.cps.toList)))) S
  | _, _ => False
theorem dInS_mono (neg : Bool) (d1 d2 : D) (S : Store) (Q Q' : DK) (hq : ∀ d S, Q d S → Q' d S) (h : dInS neg d1 d2 S Q) : dInS neg d1 d2 S Q' := by
  unfold dInS at h ⊢
  split at h
  · obtain ⟨n, e, h⟩ := h; exact ⟨n, e, hq _ _ h⟩
  · exact h.elim
theorem ol_inS : OpL G X (compareOp .In) (dInS false) := by
  refine OpL.mk' op_in_sign (fun x y H Q w S d1 d2 k r1 r2 h => ?_) (dInS_mono _)
  unfold dInS at h
  split at h
  · obtain ⟨n, e, h⟩ := h
    exact ⟨n, _, by rw [rep_str.mp r1, e], rep_str.mp r2, h.here k (rep_bl.mpr rfl)⟩
  · exact h.elim
theorem atI_rep {I : Wd} {vs : List V} {ds : List P} {i : Int} {d : P} (r : Reps G I vs ds) (h : atI ds i = some d) : ∃ v, atI vs i = some v ∧ Rep G I v d := by
  unfold atI at h ⊢
  rw [r.length]
  cases e : ixN ds.length i with
  | none => rw [e] at h; cases h
  | some j =>
    rw [e] at h
    exact r.get h
def dIx (d1 d2 : D) (S : Store) (Q : DK) : Prop := match d2 with
  | .p (.int i) => match d1 with
    | .p (.str z) => z.length ≤ sizeLine ∧ ∃ c, atI z.cps.toList i = some c ∧ Q (.p (.str ⟨#[c]⟩)) S
    | .p (.tup ds) => ∃ d, atI ds i = some d ∧ Q (.p d) S
    | d1 => match asL S d1 with
      | some ds => ∃ d, atI ds i = some d ∧ Q (.p d) S
      | none => False
  | _ => False
theorem il_ix (hK : X.K = G.K) : IxL G X dIx := by
  refine ⟨fun value slice pins s σ H x y v u Q I rx ry ⟨w, S, d1, d2, k, r1, r2, h⟩ hs => ?_, fun d1 d2 S Q Q' hq h => ?_⟩
  · refine ix_seq value slice pins s σ H x y v u Q I rx ry ?_ hs
    unfold dIx at h
    split at h
    · rw [rep_int] at r2
      split at h
      · obtain ⟨h1, c, h2, h3⟩ := h
        exact .inr (.inr ⟨_, _, c, rep_str.mp r1, r2, h1, h2, h3.here k (rep_str.mpr rfl)⟩)
      · obtain ⟨d, h1, h2⟩ := h
        obtain ⟨p, xs, rfl, q, rs⟩ := rep_tup.mp r1
        obtain ⟨z, h3, h4⟩ := atI_rep rs h1
        exact .inr (.inl ⟨p, xs, _, z, rfl, r2, by rw [hK]; exact Same.tup k.sub q, h3, h2.here k h4⟩)
      · split at h
        · rename_i ds e
          obtain ⟨d, h1, h2⟩ := h
          obtain ⟨p, xs, rfl, q, rs⟩ := asL_ok k r1 e
          obtain ⟨z, h3, h4⟩ := atI_rep rs h1
          exact .inl ⟨p, xs, _, z, rfl, r2, by rw [hK]; exact q, h3, h2.here k h4⟩
        · exact h.elim
    · exact h.elim
  · unfold dIx at h ⊢
    split at h
    · split at h
      · obtain ⟨h1, c, h2, h3⟩ := h; exact ⟨h1, c, h2, hq _ _ h3⟩
      · obtain ⟨d, h1, h2⟩ := h; exact ⟨d, h1, hq _ _ h2⟩
      · split at h
        · obtain ⟨d, h1, h2⟩ := h; exact ⟨d, h1, hq _ _ h2⟩
        · exact h.elim
    · exact h.elim
end
end RB
namespace RB
open PySem PySem.Spec PyProof.Rows L2
section
variable {G : Glob} {X : Cx} {W : WX} {e a b c : Expr} {pos : Pos}
abbrev WO := Rho → Store → (Option Int → Store → Prop) → EK → Prop
def tMo (G : Glob) (W : WX) (m : WO) : TO := fun σ H Q => ∃ w S r, Wok G w S H ∧ EnvOk G w σ r ∧ m r S (fun o S' => ∀ w' H', Ext w H w' H' → Wok G w' S' H' → Q o H') (Qx G w H fun c d H' => W c d σ H')
def MonO (m : WO) : Prop := ∀ r S Q Q' E E', (∀ d S, Q d S → Q' d S) → (∀ x S, E x S → E' x S) → m r S Q E → m r S Q' E'
structure RO (G : Glob) (X : Cx) (W : WX) (e : Option Expr) (m : WO) : Prop where
  pe : PO X e (tMo G W m)
  mono : MonO m
def wNoP : WO := fun _ S Q _ => Q none S
def wPart (m : WE) : WO := fun r S Q E => m r S (fun d S1 => match d with
  | .p (.int i) => Q (some i) S1
  | _ => False) E
theorem PO.imp {X : Cx} {e : Option Expr} {t u : TO} (h : PO X e t) (i : ∀ σ H Q, u σ H Q → t σ H Q) : PO X e u := ⟨fun pins s σ H Q I q => h.run pins s σ H Q I (i σ H Q q)⟩
theorem ro_none : RO G X W none wNoP := ⟨PO.imp po_none fun σ H Q ⟨w, S, ρ, ok, en, q⟩ => q w H (Ext.refl w H) ok, fun _ _ _ _ _ _ hq _ h => hq _ _ h⟩
theorem ro_some {m : WE} (h : RE G X W e m) : RO G X W (some e) (wPart m) := by
  refine ⟨PO.imp (po_some h.pe) fun σ H Q ⟨w, S, ρ, ok, en, q⟩ => ?_, fun r S Q Q' E E' hq he h' => h.mono r S _ _ _ _ (fun d S1 q => ?_) he h'⟩
  · refine tM.bind h.mono ok en q (fun _ _ _ z => z) fun d S' v w' H' x k r q => ?_
    split at q
    · exact ⟨_, rep_int.mp r, q w' H' x k⟩
    · exact q.elim
  · split at q
    · exact hq _ _ q
    · exact q.elim
def dSl (d : D) (lo hi : Option Int) (S : Store) (Q : DK) : Prop := match d with
  | .p (.str z) => z.length ≤ sizeLine ∧ Q (.p (.str (cutS z lo hi))) S
  | .p (.tup ds) => Q (.p (.tup ((ds.drop (HT.sIx ds.length 0 lo)).take (HT.sIx ds.length ds.length hi - HT.sIx ds.length 0 lo)))) S
  | d => match asL S d with
    | some ds => Q (.p (.lst ((ds.drop (HT.sIx ds.length 0 lo)).take (HT.sIx ds.length ds.length hi - HT.sIx ds.length 0 lo)))) S
    | none => False
theorem dSl_mono (d : D) (lo hi : Option Int) (S : Store) (Q Q' : DK) (hq : ∀ d S, Q d S → Q' d S) (h : dSl d lo hi S Q) : dSl d lo hi S Q' := by
  unfold dSl at h ⊢
  split at h
  · exact ⟨h.1, hq _ _ h.2⟩
  · exact hq _ _ h
  · split at h
    · exact hq _ _ h
    · exact h.elim
theorem Reps.cut {I : Wd} {vs : List V} {ds : List P} {lo hi : Option Int} (r : Reps G I vs ds) : Reps G I (cutV vs lo hi) ((ds.drop (HT.sIx ds.length 0 lo)).take (HT.sIx ds.length ds.length hi - HT.sIx ds.length 0 lo)) := by
  unfold cutV
  rw [r.length]
  exact (r.drop _).take _
def wSl (m : WE) (ml mh : WO) : WE := fun r S Q E => m r S (fun d S1 => ml r S1 (fun lo S2 => mh r S2 (fun hi S3 => dSl d lo hi S3 Q) E) E) E
theorem re_slice (hK : X.K = G.K) {m : WE} {ml mh : WO} {lo hi : Option Expr} {p2 : Pos} (he : RE G X W e m) (hl : RO G X W lo ml) (hh : RO G X W hi mh) : RE G X W (.Subscript e (.Slice lo hi none p2) pos) (wSl m ml mh) := by
  refine ⟨PE.imp (pe_slice (SlR.or sl_str (SlR.or sl_tupA sl_list)) he.pe hl.pe hh.pe) fun σ H Q ⟨w, S, ρ, ok, en, q⟩ => ?_, fun r S Q Q' E E' hq he' h => he.mono r S _ _ _ _ (fun d S1 q => hl.mono r S1 _ _ _ _ (fun lo S2 q2 => hh.mono r S2 _ _ _ _ (fun hi S3 q3 => dSl_mono _ _ _ _ _ _ hq q3) he' q2) he' q) he' h⟩
  refine tM.bind he.mono ok en q (fun _ _ _ z => z) fun d S1 x w1 H1 x1 k1 r1 q1 => ?_
  refine ⟨w1, S1, ρ, k1, en.mono x1, hl.mono ρ S1 _ _ _ _ (fun lo S2 q2 w2 H2 x2 k2 => ?_) (fun y S' q => q.ext x1) q1⟩
  refine ⟨w2, S2, ρ, k2, en.mono (x1.trans x2), hh.mono ρ S2 _ _ _ _ (fun hi S3 q3 w3 H3 x3 k3 => ?_) (fun y S' q => q.ext (x1.trans x2)) q2⟩
  have r3 := (r1.mono x2).mono x3
  have xx := (x1.trans x2).trans x3
  unfold dSl at q3
  split at q3
  · exact .inl ⟨_, rep_str.mp r3, q3.1, q3.2 _ w3 H3 xx k3 (rep_str.mpr rfl)⟩
  · obtain ⟨p, xs, rfl, q, rs⟩ := rep_tup.mp r3
    refine .inr (.inl ⟨p, xs, rfl, by rw [hK]; exact Same.tup k3.sub q, fun hw => ?_, fun _ p hp => new_tup k3 (q3.ext xx) rs.cut hp⟩)
    refine q3 _ w3 H3 xx k3 (rep_tup.mpr ⟨p, xs, rfl, q, ?_⟩)
    have := rs.cut (lo := lo) (hi := hi)
    unfold cutV at this
    rw [hw.1, hw.2] at this
    simpa using this
  · split at q3
    · rename_i ds e
      obtain ⟨p, xs, rfl, q, rs⟩ := asL_ok k3 r3 e
      exact .inr (.inr ⟨p, xs, rfl, by rw [hK]; exact q, fun p hp => new_lst k3 (q3.ext xx) rs.cut hp⟩)
    · exact q3.elim
theorem CallR.or {X : Cx} {g : Value} {r r' : List V → Hp → VK → Prop} (h : CallR X g r) (h' : CallR X g r') : CallR X g (fun xs H Q => r xs H Q ∨ r' xs H Q) := by
  intro pins s σ H xs us Q I rx q
  rcases q with q | q
  · exact h pins s σ H xs us Q I rx q
  · exact h' pins s σ H xs us Q I rx q
theorem CallL.mk' {g : Value} {f : List D → Store → DK → Prop} {r : List V → Hp → VK → Prop} (h : CallR X g r)
    (i : ∀ xs H Q w S ds, Wok G w S H → RepDs G w xs ds → f ds S (Qv G w H Q) → r xs H Q) (m : ∀ ds S Q Q', (∀ d S, Q d S → Q' d S) → f ds S Q → f ds S Q') : CallL G X g f :=
  ⟨fun pins s σ H xs us Q I rx ⟨w, S, ds, k, r1, q⟩ => h pins s σ H xs us Q I rx (i xs H Q w S ds k r1 q), m⟩
theorem reps1 {w : Wd} {xs : List V} {d : D} (r : RepDs G w xs [d]) : ∃ x, xs = [x] ∧ RepD G w x d := by
  match xs, r with
  | [x], ⟨h, _⟩ => exact ⟨x, rfl, h⟩
theorem reps2 {w : Wd} {xs : List V} {d d' : D} (r : RepDs G w xs [d, d']) : ∃ x y, xs = [x, y] ∧ RepD G w x d ∧ RepD G w y d' := by
  match xs, r with
  | [x, y], ⟨h, h', _⟩ => exact ⟨x, y, rfl, h, h'⟩
def b1 (f : D → Store → DK → Prop) (ds : List D) (S : Store) (Q : DK) : Prop := match ds with
  | [d] => f d S Q
  | _ => False
def b2 (f : D → D → Store → DK → Prop) (ds : List D) (S : Store) (Q : DK) : Prop := match ds with
  | [d, d'] => f d d' S Q
  | _ => False
theorem CallL.mk1 {g : Value} {f : D → Store → DK → Prop} {r : List V → Hp → VK → Prop} (h : CallR X g r)
    (i : ∀ x H Q w S d, Wok G w S H → RepD G w x d → f d S (Qv G w H Q) → r [x] H Q) (m : ∀ d S Q Q', (∀ d S, Q d S → Q' d S) → f d S Q → f d S Q') : CallL G X g (b1 f) := by
  refine CallL.mk' h (fun xs H Q w S ds k rs q => ?_) (fun ds S Q Q' hq q => ?_)
  · unfold b1 at q
    split at q
    · obtain ⟨x, rfl, rx⟩ := reps1 rs
      exact i x H Q w S _ k rx q
    · exact q.elim
  · unfold b1 at q ⊢
    split at q
    · exact m _ _ _ _ hq q
    · exact q.elim
theorem CallL.mk2 {g : Value} {f : D → D → Store → DK → Prop} {r : List V → Hp → VK → Prop} (h : CallR X g r)
    (i : ∀ x y H Q w S d d', Wok G w S H → RepD G w x d → RepD G w y d' → f d d' S (Qv G w H Q) → r [x, y] H Q) (m : ∀ d d' S Q Q', (∀ d S, Q d S → Q' d S) → f d d' S Q → f d d' S Q') : CallL G X g (b2 f) := by
  refine CallL.mk' h (fun xs H Q w S ds k rs q => ?_) (fun ds S Q Q' hq q => ?_)
  · unfold b2 at q
    split at q
    · obtain ⟨x, y, rfl, rx, ry⟩ := reps2 rs
      exact i x y H Q w S _ _ k rx ry q
    · exact q.elim
  · unfold b2 at q ⊢
    split at q
    · exact m _ _ _ _ _ hq q
    · exact q.elim
def dLen (d : D) (S : Store) (Q : DK) : Prop := match d with
  | .p (.str z) => z.length ≤ sizeLine ∧ Q (.p (.int z.length)) S
  | .p (.tup ds) => Q (.p (.int ds.length)) S
  | d => match asL S d with
    | some ds => Q (.p (.int ds.length)) S
    | none => False
theorem cl_len (hK : X.K = G.K) : CallL G X (.builtin "len") (b1 dLen) := by
  refine CallL.mk1 call_len (fun x H Q w S d k r q => ?_) (fun d S Q Q' hq q => ?_)
  · unfold dLen at q
    split at q
    · rw [rep_str] at r
      subst r
      exact ⟨_, _, rfl, ⟨q.1, rfl⟩, q.2.here k (rep_int.mpr rfl)⟩
    · obtain ⟨p, xs, rfl, z, rs⟩ := rep_tup.mp r
      exact ⟨_, xs.length, rfl, .inr ⟨xs, by rw [hK]; exact Same.tup k.sub z, rfl⟩, q.here k (rep_int.mpr (by rw [rs.length]))⟩
    · split at q
      · rename_i ds e
        obtain ⟨p, xs, rfl, z, rs⟩ := asL_ok k r e
        exact ⟨_, xs.length, rfl, .inl ⟨xs, by rw [hK]; exact z, rfl⟩, q.here k (rep_int.mpr (by rw [rs.length]))⟩
      · exact q.elim
  · unfold dLen at q ⊢
    split at q
    · exact ⟨q.1, hq _ _ q.2⟩
    · exact hq _ _ q
    · split at q
      · exact hq _ _ q
      · exact q.elim
def dI1 (g : Int → P) (d : D) (S : Store) (Q : DK) : Prop := match d with
  | .p (.int i) => Q (.p (g i)) S
  | _ => False
theorem dI1_mono {g : Int → P} (d : D) (S : Store) (Q Q' : DK) (hq : ∀ d S, Q d S → Q' d S) (q : dI1 g d S Q) : dI1 g d S Q' := by
  unfold dI1 at q ⊢
  split at q
  · exact hq _ _ q
  · exact q.elim
theorem cl_abs : CallL G X (.builtin "abs") (b1 (dI1 fun i => .int (if i < 0 then -i else i))) := by
  refine CallL.mk1 call_abs (fun x H Q w S d k r q => ?_) dI1_mono
  unfold dI1 at q
  split at q
  · rw [rep_int] at r
    subst r
    exact ⟨_, rfl, q.here k (rep_int.mpr rfl)⟩
  · exact q.elim
def dToInt (d : D) (S : Store) (Q : DK) : Prop := match d with
  | .p (.int i) => Q (.p (.int i)) S
  | .p (.bl b) => Q (.p (.int (if b then 1 else 0))) S
  | _ => False
theorem cl_int : CallL G X (.type "int") (b1 dToInt) := by
  refine CallL.mk1 call_int1 (fun x H Q w S d k r q => ?_) (fun d S Q Q' hq q => ?_)
  · unfold dToInt at q
    split at q
    · rw [rep_int] at r
      subst r
      exact .inl ⟨_, rfl, q.here k (rep_int.mpr rfl)⟩
    · rw [rep_bl] at r
      subst r
      exact .inr ⟨_, rfl, q.here k (rep_int.mpr rfl)⟩
    · exact q.elim
  · unfold dToInt at q ⊢
    split at q
    · exact hq _ _ q
    · exact hq _ _ q
    · exact q.elim
theorem cl_min2 (hc : X.calm = true) : CallL G X (.builtin "min") (b2 (dInt (fun _ _ => True) fun i j => .int (if j < i then j else i))) := by
  refine CallL.mk2 (call_min2 hc) (fun x y H Q w S d d' k r r' q => ?_) dInt_mono
  unfold dInt at q
  split at q
  · rw [rep_int] at r r'
    subst r; subst r'
    exact ⟨_, _, rfl, q.2.here k (rep_int.mpr rfl)⟩
  · exact q.elim
def asQ (S : Store) : D → Option (List P)
  | .p (.tup ds) => some ds
  | d => asL S d
theorem asQ_ok {w : Wd} {S : Store} {H : Hp} {x : V} {d : D} {ds : List P} (k : Wok G w S H) (r : RepD G w x d) (h : asQ S d = some ds) : ∃ a vs, x = .ref a ∧ (SqL G.K H a vs ∨ SqT G.K H a vs) ∧ Reps G w vs ds := by
  unfold asQ at h
  split at h
  · cases h
    obtain ⟨p, xs, rfl, z, rs⟩ := rep_tup.mp r
    exact ⟨p, xs, rfl, .inr (Same.tup k.sub z), rs⟩
  · obtain ⟨p, xs, rfl, z, rs⟩ := asL_ok k r h
    exact ⟨p, xs, rfl, .inl z, rs⟩
def dQ1 (f : List P → Store → DK → Prop) (d : D) (S : Store) (Q : DK) : Prop := match asQ S d with
  | some ds => f ds S Q
  | none => False
theorem dQ1_mono {f : List P → Store → DK → Prop} (hf : ∀ ds S Q Q', (∀ d S, Q d S → Q' d S) → f ds S Q → f ds S Q') (d : D) (S : Store) (Q Q' : DK) (hq : ∀ d S, Q d S → Q' d S) (q : dQ1 f d S Q) : dQ1 f d S Q' := by
  unfold dQ1 at q ⊢
  split at q
  · exact hf _ _ _ _ hq q
  · exact q.elim
theorem cl_list (hK : X.K = G.K) : CallL G X (.type "list") (b1 (dQ1 fun ds S Q => Q (.p (.lst ds)) S)) := by
  refine CallL.mk1 call_list_of (fun x H Q w S d k r q => ?_) (dQ1_mono fun _ _ _ _ hq q => hq _ _ q)
  unfold dQ1 at q
  split at q
  · rename_i ds e
    obtain ⟨p, xs, rfl, z, rs⟩ := asQ_ok k r e
    exact ⟨p, xs, rfl, by rw [hK]; exact z, fun p hp => new_lst k q rs hp⟩
  · exact q.elim
theorem cl_tuple (hK : X.K = G.K) : CallL G X (.type "tuple") (b1 (dQ1 fun ds S Q => Q (.p (.tup ds)) S)) := by
  refine CallL.mk1 call_tuple_of (fun x H Q w S d k r q => ?_) (dQ1_mono fun _ _ _ _ hq q => hq _ _ q)
  unfold dQ1 asQ at q
  split at q
  · rename_i ds e
    split at e
    · cases e
      obtain ⟨p, xs, rfl, z, rs⟩ := rep_tup.mp r
      exact ⟨p, xs, rfl, .inr ⟨by rw [hK]; exact Same.tup k.sub z, q.here k (rep_tup.mpr ⟨p, xs, rfl, z, rs⟩)⟩⟩
    · obtain ⟨p, xs, rfl, z, rs⟩ := asL_ok k r e
      exact ⟨p, xs, rfl, .inl ⟨by rw [hK]; exact z, fun p hp => new_tup k q rs hp⟩⟩
  · exact q.elim
def bls : List P → Option (List Bool)
  | [] => some []
  | .bl b :: r => (bls r).map (b :: ·)
  | _ :: _ => none
theorem bls_ok {I : Wd} : ∀ {ds : List P} {vs : List V} {bs : List Bool}, Reps G I vs ds → bls ds = some bs → vs = bs.map V.bl
  | [], _, _, h, q => by simp only [Reps, bls] at h q; cases q; exact h
  | .bl b :: ds, _, _, h, q => by
    simp only [Reps, Rep, bls, Option.map_eq_some_iff] at h q
    obtain ⟨v, r, e, rfl, h2⟩ := h
    obtain ⟨bs, e1, rfl⟩ := q
    rw [e, bls_ok h2 e1]
    rfl
  | .non :: _, _, _, _, q | .int _ :: _, _, _, _, q | .str _ :: _, _, _, _, q | .ty _ :: _, _, _, _, q | .tup _ :: _, _, _, _, q | .lst _ :: _, _, _, _, q | .scr _ :: _, _, _, _, q | .dK _ _ :: _, _, _, _, q | .fK _ _ :: _, _, _, _, q | .dT _ _ :: _, _, _, _, q | .obj _ _ _ :: _, _, _, _, q => by simp [bls] at q
def dBls (g : List Bool → Bool) (d : D) (S : Store) (Q : DK) : Prop := match asL S d with
  | some ds => match bls ds with
    | some bs => Q (.p (.bl (g bs))) S
    | none => False
  | none => False
theorem dBls_mono {g : List Bool → Bool} (d : D) (S : Store) (Q Q' : DK) (hq : ∀ d S, Q d S → Q' d S) (q : dBls g d S Q) : dBls g d S Q' := by
  unfold dBls at q ⊢
  split at q
  · split at q
    · exact hq _ _ q
    · exact q.elim
  · exact q.elim
theorem cl_all (hK : X.K = G.K) (hc : X.calm = true) : CallL G X (.builtin "all") (b1 (dBls fun bs => bs.all id)) := by
  refine CallL.mk1 (cr_all hc) (fun x H Q w S d k r q => ?_) dBls_mono
  unfold dBls at q
  split at q
  · rename_i ds e
    split at q
    · rename_i bs e2
      obtain ⟨p, xs, rfl, z, rs⟩ := asL_ok k r e
      rw [bls_ok rs e2] at z
      exact ⟨p, bs, rfl, by rw [hK]; exact z, q.here k (rep_bl.mpr rfl)⟩
    · exact q.elim
  · exact q.elim
theorem cl_any (hK : X.K = G.K) (hc : X.calm = true) : CallL G X (.builtin "any") (b1 (dBls fun bs => bs.any id)) := by
  refine CallL.mk1 (cr_any hc) (fun x H Q w S d k r q => ?_) dBls_mono
  unfold dBls at q
  split at q
  · rename_i ds e
    split at q
    · rename_i bs e2
      obtain ⟨p, xs, rfl, z, rs⟩ := asL_ok k r e
      rw [bls_ok rs e2] at z
      exact ⟨p, bs, rfl, by rw [hK]; exact z, q.here k (rep_bl.mpr rfl)⟩
    · exact q.elim
  · exact q.elim
def intsP : List P → Option (List Int)
  | [] => some []
  | .int b :: r => (intsP r).map (b :: ·)
  | _ :: _ => none
theorem intsP_ok {I : Wd} : ∀ {ds : List P} {vs : List V} {bs : List Int}, Reps G I vs ds → intsP ds = some bs → vs = bs.map V.int
  | [], _, _, h, q => by simp only [Reps, intsP] at h q; cases q; exact h
  | .int b :: ds, _, _, h, q => by
    simp only [Reps, Rep, intsP, Option.map_eq_some_iff] at h q
    obtain ⟨v, r, e, rfl, h2⟩ := h
    obtain ⟨bs, e1, rfl⟩ := q
    rw [e, intsP_ok h2 e1]
    rfl
  | .non :: _, _, _, _, q | .bl _ :: _, _, _, _, q | .str _ :: _, _, _, _, q | .ty _ :: _, _, _, _, q | .tup _ :: _, _, _, _, q | .lst _ :: _, _, _, _, q | .scr _ :: _, _, _, _, q | .dK _ _ :: _, _, _, _, q | .fK _ _ :: _, _, _, _, q | .dT _ _ :: _, _, _, _, q | .obj _ _ _ :: _, _, _, _, q => by simp [intsP] at q
def dSum (d : D) (S : Store) (Q : DK) : Prop := match asL S d with
  | some ds => match intsP ds with
    | some bs => Q (.p (.int bs.sum)) S
    | none => False
  | none => False
theorem cl_sum (hK : X.K = G.K) (hc : X.calm = true) : CallL G X (.builtin "sum") (b1 dSum) := by
  refine CallL.mk1 (cr_sum hc) (fun x H Q w S d k r q => ?_) (fun d S Q Q' hq q => ?_)
  · unfold dSum at q
    split at q
    · rename_i ds e
      split at q
      · rename_i bs e2
        obtain ⟨p, xs, rfl, z, rs⟩ := asL_ok k r e
        rw [intsP_ok rs e2] at z
        exact ⟨p, bs, rfl, by rw [hK]; exact z, q.here k (rep_int.mpr rfl)⟩
      · exact q.elim
    · exact q.elim
  · unfold dSum at q ⊢
    split at q
    · split at q
      · exact hq _ _ q
      · exact q.elim
    · exact q.elim
def strsP : List P → Option (List Str)
  | [] => some []
  | .str b :: r => (strsP r).map (b :: ·)
  | _ :: _ => none
theorem strsP_ok {I : Wd} : ∀ {ds : List P} {vs : List V} {bs : List Str}, Reps G I vs ds → strsP ds = some bs → vs = bs.map V.str
  | [], _, _, h, q => by simp only [Reps, strsP] at h q; cases q; exact h
  | .str b :: ds, _, _, h, q => by
    simp only [Reps, Rep, strsP, Option.map_eq_some_iff] at h q
    obtain ⟨v, r, e, rfl, h2⟩ := h
    obtain ⟨bs, e1, rfl⟩ := q
    rw [e, strsP_ok h2 e1]
    rfl
  | .non :: _, _, _, _, q | .bl _ :: _, _, _, _, q | .int _ :: _, _, _, _, q | .ty _ :: _, _, _, _, q | .tup _ :: _, _, _, _, q | .lst _ :: _, _, _, _, q | .scr _ :: _, _, _, _, q | .dK _ _ :: _, _, _, _, q | .fK _ _ :: _, _, _, _, q | .dT _ _ :: _, _, _, _, q | .obj _ _ _ :: _, _, _, _, q => by simp [strsP] at q
def dJoin (d1 d2 : D) (S : Store) (Q : DK) : Prop := match d1, asQ S d2 with
  | .p (.str a), some ds => match strsP ds with
    | some ys => (ys.map (·.length)).sum + ys.length * a.length ≤ 16777216 ∧ Q (.p (.str (Txt.join a ys))) S
    | none => False
  | _, _ => False
theorem dJoin_mono (d1 d2 : D) (S : Store) (Q Q' : DK) (hq : ∀ d S, Q d S → Q' d S) (q : dJoin d1 d2 S Q) : dJoin d1 d2 S Q' := by
  unfold dJoin at q ⊢
  split at q
  · split at q
    · exact ⟨q.1, hq _ _ q.2⟩
    · exact q.elim
  · exact q.elim
def wJoin (m1 m2 : WE) : WE := fun r S Q E => m1 r S (fun d1 S1 => match d1 with
  | .p (.str a) => m2 r S1 (fun d2 S2 => dJoin (.p (.str a)) d2 S2 Q) E
  | _ => False) E
theorem re_join (hK : X.K = G.K) {m1 m2 : WE} {apos pos : Pos} {o : Expr} (ho : RE G X W o m1) (he : RE G X W e m2) (hs : starEach [e] X.env = [(false, eval e X.env)] := by rfl) (hbase : attributeBase o "join" X.env (eval o X.env) = eval o X.env := by rfl) (hline : (apos.endLine == pos.line) = true := by rfl) :
    RE G X W (.Call (.Attribute o "join" apos) [e] [] pos) (wJoin m1 m2) := by
  refine ⟨PE.imp (pe_join ho.pe he.pe hs hbase hline) fun σ H Q ⟨w, S, ρ, ok, en, q⟩ => ?_, fun r S Q Q' E E' hq he' h => ho.mono r S _ _ _ _ (fun d S1 q => ?_) he' h⟩
  · refine tM.bind ho.mono ok en q (fun _ _ _ z => z) fun d1 S1 x w1 H1 x1 k1 r1 q1 => ?_
    split at q1
    · rename_i a
      refine ⟨⟨a, rep_str.mp r1⟩, w1, S1, ρ, k1, en.mono x1, he.mono ρ S1 _ _ _ _ (fun d2 S2 q2 y w2 H2 x2 k2 r2 => ?_) (fun y S' q => q.ext x1) q1⟩
      unfold dJoin at q2
      split at q2
      · rename_i a' ds e1 e2
        cases e1
        split at q2
        · rename_i ys e3
          obtain ⟨p, xs, rfl, z, rs⟩ := asQ_ok k2 r2 e2
          rw [strsP_ok rs e3] at z
          exact ⟨a, p, ys, rep_str.mp r1, rfl, by rw [hK]; exact z, q2.1, q2.2 _ w2 H2 (x1.trans x2) k2 (rep_str.mpr rfl)⟩
        · exact q2.elim
      · exact q2.elim
    · exact q1.elim
  · split at q
    · exact he.mono r S1 _ _ _ _ (fun d2 S2 q2 => dJoin_mono _ _ _ _ _ hq q2) he' q
    · exact q.elim
end
end RB
namespace RB
open PySem PySem.Spec PyProof.Rows L2
section
variable {G : Glob} {X : Cx} {W : WX} {e a b c : Expr} {pos : Pos}
def tyS (S : Store) : D → Option String
  | .p .non => some "NoneType"
  | .p (.bl _) => some "bool"
  | .p (.int _) => some "int"
  | .p (.str _) => some "str"
  | .p (.tup _) => some "tuple"
  | .p (.lst _) => some "list"
  | .p (.dK _ _) => some "dict"
  | .p (.dT _ _) => some "dict"
  | .cell n => match S[n]? with
    | some (.lst _) => some "list"
    | some (.dK _ _) => some "dict"
    | _ => none
  | _ => none
theorem tyS_ok {K : PySem.W.Frag} (hK : G.K = K) {w : Wd} {S : Store} {H : Hp} {x : V} {d : D} {t : String} (k : Wok G w S H) (r : RepD G w x d) (h : tyS S d = some t) : TyX K H x (.type t) := by
  cases d with
  | p q =>
    cases q <;> simp only [tyS] at h <;> first | (cases h; done) | skip
    · cases h; rw [rep_non] at r; subst r; exact .base .non
    · cases h; rw [rep_bl] at r; subst r; exact .base (.bl _)
    · cases h; rw [rep_int] at r; subst r; exact .base (.int _)
    · cases h; rw [rep_str] at r; subst r; exact .base (.str _)
    · cases h
      obtain ⟨p, xs, rfl, z, rs⟩ := rep_tup.mp r
      rw [hK] at z
      rcases z with (z | ⟨o, z⟩) | ⟨o, its, n, z, c, _⟩
      · exact .base (.tup (k.sub _ _ z))
      · exact .fTuple (k.sub _ _ z)
      · exact .kTuple z c
    · cases h; obtain ⟨p, xs, rfl, z, rs⟩ := rep_lst.mp r; exact .base (.lst (k.sub _ _ z))
    · cases h; simp only [RepD, Rep] at r; obtain ⟨p, xs, rfl, z, _⟩ := r; exact .base (.dK (k.sub _ _ z))
    · cases h; simp only [RepD, Rep] at r; obtain ⟨p, xs, rfl, z, _⟩ := r; exact .base (.dT (k.sub _ _ z))
  | fn => simp [tyS] at h
  | cell n =>
    obtain ⟨a, rfl, q⟩ := rep_cell.mp r
    simp only [tyS] at h
    split at h
    · rename_i ds hs
      cases h
      obtain ⟨_, vs, hv, rs⟩ := k.cells n _ a hs q
      exact .base (.lst hv)
    · rename_i ks ds hs
      cases h
      obtain ⟨_, vs, hv, _⟩ := k.cells n _ a hs q
      exact .base (.dK hv)
    · cases h
def isB (a b : String) : Bool := a == b || (a == "bool" && b == "int")
theorem isB_ok : ∀ a ∈ ["NoneType", "bool", "int", "str", "tuple", "list", "dict"], ∀ b ∈ ["bool", "int", "str", "tuple", "list", "dict"], kitB a b = some (isB a b) := by decide +kernel
theorem tyS_mem {S : Store} {d : D} {t : String} (h : tyS S d = some t) : t ∈ ["NoneType", "bool", "int", "str", "tuple", "list", "dict"] := by
  cases d with
  | p q => cases q <;> simp only [tyS] at h <;> first | (cases h; done) | (cases h; simp)
  | fn => simp [tyS] at h
  | cell n =>
    simp only [tyS] at h
    split at h <;> first | (cases h; done) | (cases h; simp)
def dIsi (d d' : D) (S : Store) (Q : DK) : Prop := match d' with
  | .p (.ty T) => T ∈ ["bool", "int", "str", "tuple", "list", "dict"] ∧ match tyS S d with
    | some t => Q (.p (.bl (isB t T))) S
    | none => False
  | _ => False
theorem cl_isi (hK : X.K = G.K) : CallL G X (.builtin "isinstance") (b2 dIsi) := by
  refine CallL.mk2 call_isi (fun x y H Q w S d d' k r r' q => ?_) (fun d d' S Q Q' hq q => ?_)
  · unfold dIsi at q
    split at q
    · rename_i T
      obtain ⟨hT, q⟩ := q
      split at q
      · rename_i t e
        rw [rep_ty] at r'
        subst r'
        exact ⟨x, _, _, _, _, rfl, .ty T, tyS_ok hK.symm k r e, kit_ty (isB_ok t (tyS_mem e) T hT), q.here k (rep_bl.mpr rfl)⟩
      · exact q.elim
    · exact q.elim
  · unfold dIsi at q ⊢
    split at q
    · refine ⟨q.1, ?_⟩
      have q := q.2
      split at q
      · exact hq _ _ q
      · exact q.elim
    · exact q.elim
def wIsi2 (T T' : String) (m : WE) : WE := fun r S Q E => m r S (fun d S1 => match tyS S1 d with
  | some t => Q (.p (.bl (isB t T || isB t T'))) S1
  | none => False) E
theorem re_isi2 {p pos p1 p2 p3 : Pos} {k3 : Nat} {T T' : String} {x x' : Str} {m : WE} (hK : X.K = G.K) (he : RE G X W e m) (hg : Gl X "isinstance") (hm : X.mg "isinstance" = none) (hg1 : Gl X x) (hm1 : X.mg x = none) (hv1 : bootBuiltins x = some (.type T)) (hg2 : Gl X x') (hm2 : X.mg x' = none) (hv2 : bootBuiltins x' = some (.type T'))
    (hT : T ∈ ["bool", "int", "str", "tuple", "list", "dict"] := by decide) (hT' : T' ∈ ["bool", "int", "str", "tuple", "list", "dict"] := by decide) (hn1 : x ≠ "__name__" := by decide) (hd1 : (x == ("__debug__" : Str)) = false := by decide) (hn2 : x' ≠ "__name__" := by decide) (hd2 : (x' == ("__debug__" : Str)) = false := by decide)
    (hs : starEach [e, .Tuple [.Name x p1, .Name x' p2] k3 p3] X.env = (false, eval e X.env) :: starEach [.Tuple [.Name x p1, .Name x' p2] k3 p3] X.env := by rfl) :
    RE G X W (.Call (.Name "isinstance" p) [e, .Tuple [.Name x p1, .Name x' p2] k3 p3] [] pos) (wIsi2 T T' m) := by
  have ht := pe_tup (pos := p3) (x1 := k3) (pa_cons (pe_bltn (X := X) (pos := p1) (v := .ty T) hg1 hm1 hv1 rfl hn1 hd1) (pa_cons (pe_bltn (X := X) (pos := p2) (v := .ty T') hg2 hm2 hv2 rfl hn2 hd2) pa_nil))
  refine ⟨PE.imp (pe_callB call_isiT hg hm (by decide +kernel) (pa_cons he.pe (pa_cons ht pa_nil) hs) (he := hs)) fun σ H Q ⟨w, S, ρ, ok, en, q⟩ => ?_, fun r S Q Q' E E' hq he' h => he.mono r S _ _ _ _ (fun d S1 q => ?_) he' h⟩
  · refine tM.bind he.mono ok en q (fun _ _ _ z => z) fun d S1 y w1 H1 x1 k1 r1 q1 => ?_
    split at q1
    · rename_i t et
      refine ⟨by show 2 ≤ sizeLine; decide, fun tp hp => ?_⟩
      obtain ⟨k2, x2⟩ := k1.allocX (o := .tup [.ty T, .ty T']) hp
      have ty := tyS_ok (K := X.K) hK.symm k2 (r1.mono x2) et
      refine ⟨y, tp, _, _, [.type T, .type T'], _, rfl, upd_same, .cons (.ty T) (.cons (.ty T') .nil), ty, ?_, q1 _ w1 _ (x1.trans x2) k2 (rep_bl.mpr rfl)⟩
      refine kitAny_cons (kit_ty (isB_ok t (tyS_mem et) T hT)) (fun h1 => ?_) (fun h1 => by rw [h1]; rfl)
      refine kitAny_cons (kit_ty (isB_ok t (tyS_mem et) T' hT')) (fun h2 => ?_) (fun h2 => by rw [h2]; simp)
      rw [h1, h2]
      rfl
    · exact q1.elim
  · split at q
    · exact hq _ _ q
    · exact q.elim
def klook : List Key → List P → Key → Option P
  | k' :: ks, v :: vs, k => if k' = k then some v else klook ks vs k
  | _, _, _ => none
def kset : List Key → List P → Key → P → List P
  | k' :: ks, v :: vs, k, x => (if k' = k then x else v) :: kset ks vs k x
  | _, vs, _, _ => vs
def keyOf : D → Option Key
  | .p (.int i) => some (.inl i)
  | .p (.str x) => some (.inr x)
  | _ => none
theorem keyOf_ok {w : Wd} {x : V} {d : D} {k : Key} (r : RepD G w x d) (h : keyOf d = some k) : x = kV k := by
  cases d with
  | cell n => simp [keyOf] at h
  | fn => simp [keyOf] at h
  | p q =>
    cases q <;> simp only [keyOf] at h <;> first | (cases h; done) | skip
    · cases h; exact rep_int.mp r
    · cases h; exact rep_str.mp r
theorem klook_ok {I : Wd} : ∀ {kvs : List (Key × V)} {ks : List Key} {vs : List P} {k : Key} {p : P}, kvs.map (·.1) = ks → Reps G I (kvs.map (·.2)) vs → klook ks vs k = some p → ∃ v, valV kvs k = some v ∧ Rep G I v p
  | [], _, _, _, _, h1, h2, h => by simp at h1; subst h1; simp [klook] at h
  | (k', v) :: r, _, _, k, p, h1, h2, h => by
    subst h1
    cases h2' : (‹List P› : List P) with
    | nil => subst h2'; simp [klook] at h
    | cons q qs =>
      subst h2'
      simp only [List.map_cons, Reps] at h2
      obtain ⟨v', r', e, h3, h4⟩ := h2
      simp only [List.cons.injEq] at e
      obtain ⟨rfl, rfl⟩ := e
      simp only [List.map_cons, klook] at h
      by_cases hk : k' = k
      · rw [if_pos hk] at h
        cases h
        exact ⟨v, valV_pos hk, h3⟩
      · rw [if_neg hk] at h
        obtain ⟨z, e1, e2⟩ := klook_ok rfl h4 h
        exact ⟨z, by rw [valV_neg hk]; exact e1, e2⟩
theorem kmap_ok {I : Wd} {k : Key} {x : V} {p : P} (hx : Rep G I x p) : ∀ {kvs : List (Key × V)} {vs : List P}, Reps G I (kvs.map (·.2)) vs →
    ((kvs.map fun kv => if kv.1 = k then (kv.1, x) else kv).map (·.1)) = kvs.map (·.1) ∧ Reps G I ((kvs.map fun kv => if kv.1 = k then (kv.1, x) else kv).map (·.2)) (kset (kvs.map (·.1)) vs k p)
  | [], vs, h => by
    simp only [List.map_nil] at h ⊢
    refine ⟨trivial, ?_⟩
    have := h.length
    have e : vs = [] := List.eq_nil_of_length_eq_zero (by simpa using this.symm)
    subst e
    simpa [kset] using Reps.nil
  | (k', v) :: r, vs, h => by
    cases vs with
    | nil => simp only [List.map_cons, Reps] at h; cases h
    | cons q qs =>
      simp only [List.map_cons, Reps] at h
      obtain ⟨v', r', e, h3, h4⟩ := h
      simp only [List.cons.injEq] at e
      obtain ⟨rfl, rfl⟩ := e
      obtain ⟨i1, i2⟩ := kmap_ok hx h4
      simp only [List.map_cons, kset]
      by_cases hk : k' = k
      · rw [if_pos hk, if_pos hk]
        exact ⟨by rw [i1], Reps.cons hx i2⟩
      · rw [if_neg hk, if_neg hk]
        exact ⟨by rw [i1], Reps.cons h3 i2⟩
def dDGet (d d' : D) (S : Store) (Q : DK) : Prop := match keyOf d' with
  | some k => match d with
    | .p (.dK ks vs) => match klook ks vs k with
      | some p => Q (.p p) S
      | none => False
    | .p (.fK ks vs) => match klook ks vs k with
      | some p => Q (.p p) S
      | none => False
    | .cell n => match S[n]? with
      | some (.dK ks vs) => match klook ks vs k with
        | some p => Q (.p p) S
        | none => False
      | _ => False
    | _ => False
  | none => False
theorem dDGet_mono (d d' : D) (S : Store) (Q Q' : DK) (hq : ∀ d S, Q d S → Q' d S) (q : dDGet d d' S Q) : dDGet d d' S Q' := by
  unfold dDGet at q ⊢
  split at q
  · split at q
    · split at q
      · exact hq _ _ q
      · exact q.elim
    · split at q
      · exact hq _ _ q
      · exact q.elim
    · split at q
      · split at q
        · exact hq _ _ q
        · exact q.elim
      · exact q.elim
    · exact q.elim
  · exact q.elim
theorem re_dget {m1 m2 : WE} (hu : X.A.units + 1 < cLine) (ha : RE G X W a m1) (hb : RE G X W b m2) (hs : NoSl b := by intro _ _; rfl) : RE G X W (.Subscript a b pos) (wBin dDGet m1 m2) := by
  refine ⟨PE.imp (pe_dget hu ha.pe hb.pe hs) fun σ H Q ⟨w, S, ρ, ok, en, q⟩ => ?_, mon_bin dDGet_mono ha.mono hb.mono⟩
  refine tM2 ha.mono hb.mono ok en q fun d1 d2 S' x y w' H' x1 k r1 r2 q => ?_
  unfold dDGet at q
  split at q
  · rename_i ky e
    have ey := keyOf_ok r2 e
    subst ey
    split at q
    · split at q
      · rename_i ks vs p e2
        simp only [RepD, Rep] at r1
        obtain ⟨a, kvs, rfl, z, h1, h2⟩ := r1
        obtain ⟨v, h3, h4⟩ := klook_ok h1 h2 e2
        exact ⟨a, v, rfl, by rw [← h3]; exact DGet.k (k.sub _ _ z), q v w' H' x1 k h4⟩
      · exact q.elim
    · split at q
      · rename_i ks vs p e2
        simp only [RepD, Rep] at r1
        obtain ⟨a, kvs, o, rfl, z, h1, h2⟩ := r1
        obtain ⟨v, h3, h4⟩ := klook_ok h1 h2 e2
        exact ⟨a, v, rfl, by rw [← h3]; exact .inl ⟨kvs, _, .inr ⟨o, k.sub _ _ z⟩, rfl, rfl⟩, q v w' H' x1 k h4⟩
      · exact q.elim
    · split at q
      · rename_i hs
        split at q
        · rename_i p e2
          obtain ⟨a, rfl, hn⟩ := rep_cell.mp r1
          obtain ⟨_, kvs, z, h1, h2⟩ := k.cells _ _ a hs hn
          obtain ⟨v, h3, h4⟩ := klook_ok h1 h2 e2
          exact ⟨a, v, rfl, by rw [← h3]; exact DGet.k z, q v w' H' x1 k h4⟩
        · exact q.elim
      · exact q.elim
    · exact q.elim
  · exact q.elim
def wDNew : WE := fun _ S Q _ => Q (.p (.dK [] [])) S
theorem re_dnew : RE G X W (.Dict [] [] pos) wDNew := by
  refine ⟨PE.imp pe_dnewK fun σ H Q ⟨w, S, ρ, ok, en, q⟩ => fun p hp => ?_, fun _ _ _ _ _ _ hq _ h => hq _ _ h⟩
  obtain ⟨k2, x2⟩ := ok.alloc (o := .dK []) hp
  refine q (.ref p) _ _ x2 k2 ?_
  simp only [RepD, Rep]
  exact ⟨p, [], rfl, upd_same, rfl, by simpa using Reps.nil⟩
end
end RB
namespace RB
open PySem PySem.Spec PyProof.Rows L2
section
variable {G : Glob} {X : Cx} {W : WX} {e a b c : Expr} {pos : Pos}
def wPairs : List (WE × WE) → Rho → Store → (List (D × D) → Store → Prop) → EK → Prop
  | [], _, S, Q, _ => Q [] S
  | (k, v) :: ms, r, S, Q, E => k r S (fun dk S1 => v r S1 (fun dv S2 => wPairs ms r S2 (fun ps S3 => Q ((dk, dv) :: ps) S3) E) E) E
structure RPs (G : Glob) (X : Cx) (W : WX) (pos : Pos) (keys : List (Option Expr)) (values : List Expr) (ms : List (WE × WE)) : Prop where
  pp : PPs X pos keys values (ms.map fun p => (tM G W p.1, tM G W p.2))
  mono : ∀ p ∈ ms, Mon p.1 ∧ Mon p.2
theorem rp_nil : RPs G X W pos [] [] [] := ⟨pps_nil, fun _ h => nomatch h⟩
theorem rp_cons {k v : Expr} {ks : List (Option Expr)} {vs : List Expr} {mk mv : WE} {ms : List (WE × WE)} (hk : RE G X W k mk) (hv : RE G X W v mv) (hr : RPs G X W pos ks vs ms) : RPs G X W pos (some k :: ks) (v :: vs) ((mk, mv) :: ms) :=
  ⟨pps_cons hk.pe hv.pe hr.pp, fun p hp => by
    rcases List.mem_cons.mp hp with rfl | hp
    · exact ⟨hk.mono, hv.mono⟩
    · exact hr.mono p hp⟩
theorem wPairs_mono : ∀ {ms : List (WE × WE)}, (∀ p ∈ ms, Mon p.1 ∧ Mon p.2) → ∀ r S Q Q' E E', (∀ d S, Q d S → Q' d S) → (∀ x S, E x S → E' x S) → wPairs ms r S Q E → wPairs ms r S Q' E'
  | [], _, _, _, _, _, _, _, hq, _, h => hq _ _ h
  | (k, v) :: ms, hm, r, S, Q, Q', E, E', hq, he, h => by
    obtain ⟨h1, h2⟩ := hm (k, v) List.mem_cons_self
    exact h1 r S _ _ _ _ (fun dk S1 q1 => h2 r S1 _ _ _ _ (fun dv S2 q2 => wPairs_mono (fun p hp => hm p (List.mem_cons_of_mem _ hp)) r S2 _ _ _ _ (fun ps S3 q3 => hq _ _ q3) he q2) he q1) he h
def RepPs (G : Glob) (w : Wd) : List (V × V) → List (D × D) → Prop
  | [], [] => True
  | (x, y) :: r, (d, d') :: t => RepD G w x d ∧ RepD G w y d' ∧ RepPs G w r t
  | _, _ => False
theorem tPairs_in : ∀ {ms : List (WE × WE)}, (∀ p ∈ ms, Mon p.1 ∧ Mon p.2) → ∀ {σ : L2.St} {H : Hp} {w : Wd} {S : Store} {r : Rho} {k : List (D × D) → Store → Prop} {Q : List (V × V) → Hp → Prop}, Wok G w S H → EnvOk G w σ r →
    wPairs ms r S k (Qx G w H fun c d H' => W c d σ H') → (∀ ps S' vs w' H', Ext w H w' H' → Wok G w' S' H' → RepPs G w' vs ps → k ps S' → Q vs H') → tPairs (ms.map fun p => (tM G W p.1, tM G W p.2)) σ H Q
  | [], _, σ, H, w, S, r, k, Q, ok, en, h, hk => hk [] S [] w H (Ext.refl w H) ok trivial h
  | (mk, mv) :: ms, hm, σ, H, w, S, r, k, Q, ok, en, h, hk => by
    obtain ⟨h1, h2⟩ := hm (mk, mv) List.mem_cons_self
    refine tM2 (k := fun dk dv S2 => wPairs ms r S2 (fun ps S3 => k ((dk, dv) :: ps) S3) (Qx G w H fun c d H' => W c d σ H')) h1 h2 ok en h fun d1 d2 S' x y w' H' x1 k1 r1 r2 q => ?_
    have hm' : ∀ p ∈ ms, Mon p.1 ∧ Mon p.2 := fun p hp => hm p (List.mem_cons_of_mem _ hp)
    refine tPairs_in hm' (k := fun ps S3 => k ((d1, d2) :: ps) S3) k1 (en.mono x1) (wPairs_mono hm' r S' _ _ _ _ (fun _ _ q => q) (fun y S' q => q.ext x1) q) fun ps S3 vs w3 H3 x3 k3 r3 q3 => ?_
    exact hk ((d1, d2) :: ps) S3 ((x, y) :: vs) w3 H3 (x1.trans x3) k3 ⟨r1.mono x3, r2.mono x3, r3⟩ q3
def kvsOf : List (D × D) → Option (List Key × List P)
  | [] => some ([], [])
  | (dk, .p v) :: r => match keyOf dk, kvsOf r with
    | some k, some (ks, vs) => some (k :: ks, v :: vs)
    | _, _ => none
  | (_, .cell _) :: _ => none
  | (_, .fn) :: _ => none
theorem kvsOf_ok {w : Wd} : ∀ {ps : List (D × D)} {vs : List (V × V)} {ks : List Key} {ds : List P}, RepPs G w vs ps → kvsOf ps = some (ks, ds) → ∃ kvs : List (Key × V), vs = kvs.map (fun kv => (kV kv.1, kv.2)) ∧ kvs.map (·.1) = ks ∧ Reps G w (kvs.map (·.2)) ds
  | [], [], _, _, _, h => by simp only [kvsOf] at h; cases h; exact ⟨[], rfl, rfl, by simpa using Reps.nil⟩
  | (dk, .p d) :: ps, (x, y) :: vs, _, _, ⟨h1, h2, h3⟩, h => by
    simp only [kvsOf] at h
    split at h
    · rename_i k ks vs' e1 e2
      cases h
      obtain ⟨kvs, a1, a2, a3⟩ := kvsOf_ok h3 e2
      have ex := keyOf_ok h1 e1
      subst ex
      exact ⟨(k, y) :: kvs, by rw [a1]; rfl, by rw [← a2]; rfl, Reps.cons h2 a3⟩
    · cases h
  | (_, .cell _) :: _, _ :: _, _, _, _, h => by simp [kvsOf] at h
  | (_, .fn) :: _, _ :: _, _, _, _, h => by simp [kvsOf] at h
  | [], _ :: _, _, _, h, _ => h.elim
  | _ :: _, [], _, _, h, _ => h.elim
theorem putK_new {kvs : List (Key × V)} {k : Key} {v : V} (h : k ∉ kvs.map (·.1)) : putK kvs k v = kvs ++ [(k, v)] := by
  unfold putK
  rw [if_neg]
  intro z
  rw [List.any_eq_true] at z
  obtain ⟨x, hx, e⟩ := z
  exact h (List.mem_map.mpr ⟨x, hx, of_decide_eq_true e⟩)
theorem mergeK_nodup : ∀ {more kvs : List (Key × V)}, ((kvs ++ more).map (·.1)).Nodup → mergeK kvs more = kvs ++ more
  | [], kvs, _ => by simp [mergeK]
  | (k, v) :: r, kvs, h => by
    show mergeK (putK kvs k v) r = _
    have hk : k ∉ kvs.map (·.1) := fun z => by
      rw [List.map_append, List.nodup_append] at h
      exact h.2.2 k z k (by simp) rfl
    rw [putK_new hk, mergeK_nodup (by simpa using h)]
    simp
def wDict (fin : List Key → List P → Store → DK → Prop) (ms : List (WE × WE)) : WE := fun r S Q E => wPairs ms r S (fun ps S1 => match kvsOf ps with
  | some (ks, vs) => ks.Nodup ∧ ks.length ≤ 15 ∧ fin ks vs S1 Q
  | none => False) E
theorem re_dict {keys : List (Option Expr)} {values : List Expr} {ms : List (WE × WE)} (h : RPs G X W pos keys values ms) (hall : keys.all (·.isSome) = true) (hl : keys.length = values.length) (h0 : keys ≠ []) (h15 : keys.length ≤ 15) :
    RE G X W (.Dict keys values pos) (wDict (fun ks vs S Q => Q (.p (.dK ks vs)) S) ms) := by
  refine ⟨PE.imp (pe_disp h.pp hall hl h0 h15) fun σ H Q ⟨w, S, ρ, ok, en, q⟩ => fun p hp => ?_, fun r S Q Q' E E' hq he h' => wPairs_mono h.mono r S _ _ _ _ (fun d S1 q => ?_) he h'⟩
  · obtain ⟨k1, x1⟩ := ok.allocX (o := .dK []) hp
    refine tPairs_in h.mono k1 (en.mono x1) (wPairs_mono h.mono ρ S _ _ _ _ (fun _ _ q => q) (fun y S' q => q.ext x1) q) fun ps S' vs w' H' x2 k2 r2 q2 => ?_
    split at q2
    · rename_i ks ds e
      obtain ⟨nd, l15, q2⟩ := q2
      obtain ⟨kvs, a1, a2, a3⟩ := kvsOf_ok r2 e
      have np : p ∉ w.as := ok.freeAs hp
      have hp2 : H' p = some (.dK []) := x2.frame p _ upd_same np (ok.freeTs hp)
      obtain ⟨np2, ni⟩ := x2.fresh p _ upd_same np
      have ni := ni (ok.freeI hp)
      have l : kvs.length = ks.length := by rw [← a2, List.length_map]
      refine ⟨hp2, kvs, a1, by rw [l]; exact l15, ?_⟩
      rw [mergeK_nodup (kvs := []) (by rw [List.nil_append, a2]; exact nd), List.nil_append]
      have xx : Ext w H ⟨upd w'.I p (.dK kvs), w'.as, w'.ts⟩ (upd H' p (.dK kvs)) := by
        have x3 := x1.trans x2
        obtain ⟨t, ht⟩ := x3.as
        refine ⟨fun b o z => ?_, ⟨t, ht⟩, x3.ts, fun b o z n m => ?_, fun b o z n => ⟨(x3.fresh b o z n).1, fun i => ?_⟩, fun b o z => ?_⟩
        · have := x3.I b o z
          have nb : b ≠ p := fun zz => by rw [zz, ni] at this; cases this
          show upd w'.I p _ b = _
          rw [upd_ne nb]; exact this
        · rw [upd_ne (ne_of_none z hp)]; exact x3.frame b o z n m
        · show upd w'.I p _ b = none
          rw [upd_ne (ne_of_none z hp)]; exact (x3.fresh b o z n).2 i
        · obtain ⟨o', z'⟩ := x3.there b o z
          exact ⟨o', by rw [upd_ne (ne_of_none z hp)]; exact z'⟩
      refine q2 (.ref p) _ _ xx ⟨fun b o z => ?_, k2.len, k2.nd, k2.tb.step rfl (Same.upd _ ni) ⟨[], by simp⟩ fun P ps _ e i n => ⟨by rw [upd_ne (fun z => by rw [z, hp2] at e; cases e)]; exact e, by show upd w'.I p _ P = none; rw [upd_ne (fun z => by rw [z, hp2] at e; cases e)]; exact i, n⟩, fun n c b h1 h2 => ?_⟩ ?_
      · have z : upd w'.I p (.dK kvs) b = some o := z
        by_cases eb : b = p
        · subst eb; rw [upd_same] at z ⊢; exact z
        · rw [upd_ne eb] at z ⊢; exact k2.sub b o z
      · have h2 : w'.as[n]? = some b := h2
        have nb : b ≠ p := fun zz => np2 (zz ▸ List.mem_of_getElem? h2)
        refine (k2.cells n c b h1 h2).grow (Same.upd _ ni) (fun i => ?_) (upd_ne nb)
        show upd w'.I p _ b = none
        rw [upd_ne nb]; exact i
      · simp only [RepD, Rep]
        exact ⟨p, kvs, rfl, upd_same, a2, a3.mono (Same.upd _ ni)⟩
    · exact q2.elim
  · split at q
    · exact ⟨q.1, q.2.1, hq _ _ q.2.2⟩
    · exact q.elim
theorem re_dictC {keys : List (Option Expr)} {values : List Expr} {ms : List (WE × WE)} (h : RPs G X W pos keys values ms) (hall : keys.all (·.isSome) = true) (hl : keys.length = values.length) (h0 : keys ≠ []) (h15 : keys.length ≤ 15) :
    RE G X W (.Dict keys values pos) (wDict (fun ks vs S Q => Q (.cell S.length) (S ++ [.dK ks vs])) ms) := by
  refine ⟨PE.imp (pe_disp h.pp hall hl h0 h15) fun σ H Q ⟨w, S, ρ, ok, en, q⟩ => fun p hp => ?_, fun r S Q Q' E E' hq he h' => wPairs_mono h.mono r S _ _ _ _ (fun d S1 q => ?_) he h'⟩
  · obtain ⟨k1, x1⟩ := ok.allocX (o := .dK []) hp
    refine tPairs_in h.mono k1 (en.mono x1) (wPairs_mono h.mono ρ S _ _ _ _ (fun _ _ q => q) (fun y S' q => q.ext x1) q) fun ps S' vs w' H' x2 k2 r2 q2 => ?_
    split at q2
    · rename_i ks ds e
      obtain ⟨nd, l15, q2⟩ := q2
      obtain ⟨kvs, a1, a2, a3⟩ := kvsOf_ok r2 e
      have np : p ∉ w.as := ok.freeAs hp
      have hp2 : H' p = some (.dK []) := x2.frame p _ upd_same np (ok.freeTs hp)
      obtain ⟨np2, ni⟩ := x2.fresh p _ upd_same np
      have ni := ni (ok.freeI hp)
      have l : kvs.length = ks.length := by rw [← a2, List.length_map]
      refine ⟨hp2, kvs, a1, by rw [l]; exact l15, ?_⟩
      rw [mergeK_nodup (kvs := []) (by rw [List.nil_append, a2]; exact nd), List.nil_append]
      have x3 := x1.trans x2
      obtain ⟨t, ht⟩ := x3.as
      have xx : Ext w H ⟨w'.I, w'.as ++ [p], w'.ts⟩ (upd H' p (.dK kvs)) := by
        refine ⟨x3.I, ⟨t ++ [p], by show w'.as ++ [p] = _; rw [ht, List.append_assoc]⟩, x3.ts, fun b o z n m => ?_, fun b o z n => ⟨?_, (x3.fresh b o z n).2⟩, fun b o z => ?_⟩
        · rw [upd_ne (ne_of_none z hp)]; exact x3.frame b o z n m
        · show b ∉ w'.as ++ [p]
          simp only [List.mem_append, List.mem_singleton, not_or]
          exact ⟨(x3.fresh b o z n).1, ne_of_none z hp⟩
        · obtain ⟨o', z'⟩ := x3.there b o z
          exact ⟨o', by rw [upd_ne (ne_of_none z hp)]; exact z'⟩
      refine q2 (.ref p) _ _ xx ⟨fun b o z => ?_, ?_, ?_, k2.tb.step rfl (Same.refl _) ⟨[p], rfl⟩ fun P ps _ e i n => ⟨by rw [upd_ne (fun z => by rw [z, hp2] at e; cases e)]; exact e, i, by show P ∉ w'.as ++ [p]; simp only [List.mem_append, List.mem_singleton, not_or]; exact ⟨n, fun z => by rw [z, hp2] at e; cases e⟩⟩, fun n c b h1 h2 => ?_⟩ ⟨p, rfl, ?_⟩
      · have z : w'.I b = some o := z
        have nb : b ≠ p := fun zz => by rw [zz, ni] at z; cases z
        rw [upd_ne nb]; exact k2.sub b o z
      · show (w'.as ++ [p]).length = (S' ++ [_]).length
        simp [k2.len]
      · show (w'.as ++ [p]).Nodup
        rw [List.nodup_append]
        exact ⟨k2.nd, by simp, fun a ha b hb => by simp at hb; subst hb; exact fun z => np2 (z ▸ ha)⟩
      · have h2 : (w'.as ++ [p])[n]? = some b := h2
        by_cases hn : n < S'.length
        · rw [List.getElem?_append_left hn] at h1
          rw [List.getElem?_append_left (by rw [k2.len]; exact hn)] at h2
          have nb : b ≠ p := fun z => np2 (z ▸ List.mem_of_getElem? h2)
          exact (k2.cells n c b h1 h2).grow (Same.refl _) (fun z => z) (upd_ne nb)
        · have e : n = S'.length := by
            have := (List.getElem?_eq_some_iff.mp h1).1
            simp at this; omega
          subst e
          rw [List.getElem?_append_right (Nat.le_refl _)] at h1
          rw [List.getElem?_append_right (by rw [k2.len]; exact Nat.le_refl _)] at h2
          simp [k2.len] at h1 h2
          subst h1; subst h2
          exact ⟨ni, kvs, upd_same, a2, Reps.mono (I := w') (I' := ⟨w'.I, w'.as ++ [p], w'.ts⟩) (Same.refl _) ⟨[p], rfl⟩ a3⟩
      · show (w'.as ++ [p])[S'.length]? = some p
        rw [← k2.len]
        simp
    · exact q2.elim
  · split at q
    · exact ⟨q.1, q.2.1, hq _ _ q.2.2⟩
    · exact q.elim
inductive Tgt where
  | nm (i : Nat)
  | tp (is : List Nat)
def gNames : List Nat → TGs
  | [] => gNil
  | i :: r => gCons (gName i) (gNames r)
def gT (K : PySem.W.Frag) : Tgt → TG
  | .nm i => gName i
  | .tp is => gTup K is.length (gNames is)
def setAll : List Nat → List P → Rho → Rho
  | i :: is, p :: ps, r => setAll is ps (r.set i (some (.p p)))
  | _, _, r => r
def bindT (T : Tgt) (d : D) (r : Rho) : Option Rho := match T with
  | .nm i => some (r.set i (some d))
  | .tp is => match d with
    | .p (.tup ps) => if ps.length = is.length then some (setAll is ps r) else none
    | _ => none
def Tgt.slots : Tgt → List Nat
  | .nm i => [i]
  | .tp is => is
theorem wipe_set {σ : L2.St} {i : Nat} {x : Option V} : ∀ {vs : List Nat}, i ∈ vs → wipe (σ.set i x) vs = wipe σ vs
  | [], h => nomatch h
  | v :: vs, h => by
    unfold wipe
    by_cases e : i ∈ vs
    · rw [wipe_set e]
    · have : i = v := by
        rcases List.mem_cons.mp h with h | h
        · exact h
        · exact absurd h e
      subst this
      have aux : ∀ us : List Nat, (wipe (σ.set i x) us).set i none = (wipe σ us).set i none := by
        intro us
        induction us with
        | nil => unfold wipe; exact List.set_set ..
        | cons u us ih =>
          unfold wipe
          by_cases eu : u = i
          · subst eu; rw [ih]
          · rw [List.set_comm _ _ eu, ih, List.set_comm _ _ (Ne.symm eu)]
      exact aux vs
theorem gNames_ok {w : Wd} {H : Hp} {Q : L2.St → Hp → Prop} : ∀ {is : List Nat} {ps : List P} {vs : List V} {σ : L2.St} {r : Rho}, Reps G w vs ps → ps.length = is.length → EnvOk G w σ r →
    (∀ σ', EnvOk G w σ' (setAll is ps r) → (∀ us, (∀ i ∈ is, i ∈ us) → wipe σ' us = wipe σ us) → Q σ' H) → gNames is vs σ H Q
  | [], ps, vs, σ, r, rp, l, en, q => by
    have : ps = [] := List.eq_nil_of_length_eq_zero l
    subst this
    simp only [Reps] at rp
    exact ⟨rp, q σ (by simpa [setAll] using en) fun _ _ => rfl⟩
  | i :: is, [], _, _, _, _, l, _, _ => by simp at l
  | i :: is, p :: ps, vs, σ, r, rp, l, en, q => by
    simp only [Reps] at rp
    obtain ⟨v, t, e, h1, h2⟩ := rp
    refine ⟨v, t, e, gNames_ok h2 (by simpa using l) (en.set (d := .p p) h1 i) fun σ' en' hw => q σ' en' fun us hu => ?_⟩
    rw [hw us fun j hj => hu j (List.mem_cons_of_mem _ hj), wipe_set (hu i List.mem_cons_self)]
theorem gT_ok {K : PySem.W.Frag} (hK : G.K = K) {w : Wd} {S : Store} {H : Hp} {Q : L2.St → Hp → Prop} {T : Tgt} {d : D} {v : V} {σ : L2.St} {r r' : Rho} (k : Wok G w S H) (rv : RepD G w v d) (en : EnvOk G w σ r) (hb : bindT T d r = some r')
    (q : ∀ σ', EnvOk G w σ' r' → (∀ us, (∀ i ∈ T.slots, i ∈ us) → wipe σ' us = wipe σ us) → Q σ' H) : gT K T v σ H Q := by
  cases T with
  | nm i =>
    simp only [bindT] at hb
    cases hb
    exact q _ (en.set rv i) fun us hu => wipe_set (hu i List.mem_cons_self)
  | tp is =>
    simp only [bindT] at hb
    split at hb
    · rename_i ps
      split at hb
      · rename_i l
        cases hb
        obtain ⟨p, xs, rfl, z, rs⟩ := rep_tup.mp rv
        exact ⟨p, xs, rfl, Same.tup k.sub (hK ▸ z), by rw [rs.length]; exact l, gNames_ok rs l en q⟩
      · cases hb
    · cases hb
end
end RB
namespace RB
open PySem PySem.Spec PyProof.Rows L2
section
variable {G : Glob} {X : Cx} {W : WX} {e a b c : Expr} {pos : Pos}
def Yld (G : Glob) (w : Wd) (ds : List D) : Nat → Hp → V → Hp → Prop := fun i H x H' => ∃ d, ds[i]? = some d ∧
  ((H' = H ∧ ∀ w2, Same w.I w2.I → AsLe w w2 → RepD G w2 x d) ∨ ∃ T xs ps, d = .p (.tup ps) ∧ x = .ref T ∧ H T = none ∧ H' = upd H T (.tup xs) ∧ Reps G w xs ps)
def IterOf (G : Glob) (w : Wd) (J : It) (ds : List D) : Prop := Walk J ds.length (fun H => Same w.I H) (Yld G w ds)
def tMi (G : Glob) (W : WX) (m : WA) : TI := fun σ H R => ∃ w S r, Wok G w S H ∧ EnvOk G w σ r ∧ m r S (fun ds S' => ∀ J w' H', Ext w H w' H' → Wok G w' S' H' → IterOf G w' J ds → R J H') (Qx G w H fun c d H' => W c d σ H')
structure RI (G : Glob) (X : Cx) (W : WX) (tg iter : Expr) (m : WA) : Prop where
  pi : PI X tg iter (tMi G W m)
  mono : MonA m
theorem PI.imp {tg iter : Expr} {t u : TI} (h : PI X tg iter t) (i : ∀ σ H Q, u σ H Q → t σ H Q) : PI X tg iter u := ⟨fun pins s σ H Q I q => h.run pins s σ H Q I (i σ H Q q)⟩
def itemsOf (S : Store) : D → Option (List D)
  | .p (.lst ds) => some (ds.map D.p)
  | .p (.scr ds) => some (ds.map D.p)
  | .p (.tup ds) => some (ds.map D.p)
  | .p (.str z) => some (z.cps.toList.map fun c => .p (.str ⟨#[c]⟩))
  | _ => none
def wIt (m : WE) : WA := fun r S Q E => m r S (fun d S1 => match itemsOf S1 d with
  | some ds => Q ds S1
  | none => False) E
theorem rep_pure {w w2 : Wd} {x : V} {p : P} (r : Rep G w x p) (s : Same w.I w2.I) (t : AsLe w w2) : RepD G w2 x (.p p) := r.mono s t
theorem ri_seq {tg : Expr} {m : WE} (hK : X.K = G.K) (he : RE G X W e m) : RI G X W tg e (wIt m) := by
  refine ⟨⟨fun pins s σ H R I ⟨w, S, ρ, ok, en, q⟩ => ?_⟩, fun r S Q Q' E E' hq he' h => he.mono r S _ _ _ _ (fun d S1 q => ?_) he' h⟩
  · have h1 : tM G W m σ H fun x H1 => ∃ d S1 w1, Ext w H w1 H1 ∧ Wok G w1 S1 H1 ∧ RepD G w1 x d ∧ (match itemsOf S1 d with
      | some ds => ∀ J w' H', Ext w H w' H' → Wok G w' S1 H' → IterOf G w' J ds → R J H'
      | none => False) := tM.bind he.mono ok en q (fun _ _ _ z => z) fun d S' v w' H' x k r q => ⟨d, S', w', x, k, r, q⟩
    refine thn (he.pe.run pins s σ H _ I h1) fun v s1 hv => ?_
    obtain ⟨x, H1, I1, rx, d, S1, w1, x1, k1, r1, q1⟩ := hv
    split at q1
    · rename_i ds hi
      unfold itemsOf at hi
      split at hi
      · rename_i ps
        cases hi
        obtain ⟨p, xs, rfl, z, rs⟩ := rep_lst.mp r1
        cases rx
        have hq : SqL X.K H1 p xs := SqL.of (k1.sub _ _ z)
        obtain ⟨its, _, pl, _⟩ := I1.list hq
        have R1 : R (Itl X.K p) H1 := q1 _ w1 H1 x1 k1 (by
          have W1 := walk_list (K := X.K) (a := p) (xs := xs)
          have l := rs.length
          unfold IterOf
          rw [List.length_map, ← l]
          refine W1.mono (fun H2 h2 => SqL.of (h2 _ _ z)) fun i H2 y H3 hi2 _ hy => ?_
          obtain ⟨d, hd, rd⟩ := rs.get' hy.2
          exact ⟨.p d, by rw [List.getElem?_map, hd]; rfl, .inl ⟨hy.1, fun w2 s2 t2 => rep_pure rd s2 t2⟩⟩)
        exact wpAny_pyIter_list pl.isList (pi_one (tk := s1.toks) I1 _ (turn_list p _) ⟨_, Heap.get?_push_size _ rfl, rfl, rfl⟩ R1)
      · rename_i ps
        cases hi
        obtain ⟨p, xs, rfl, z, rs⟩ := rep_scr.mp r1
        cases rx
        rw [← hK] at z
        have hq : SqL X.K H1 p xs := Same.seq k1.sub z
        obtain ⟨its, _, pl, _⟩ := I1.list hq
        have R1 : R (Itl X.K p) H1 := q1 _ w1 H1 x1 k1 (by
          have W1 := walk_list (K := X.K) (a := p) (xs := xs)
          have l := rs.length
          unfold IterOf
          rw [List.length_map, ← l]
          refine W1.mono (fun H2 h2 => Same.seq h2 z) fun i H2 y H3 hi2 _ hy => ?_
          obtain ⟨d, hd, rd⟩ := rs.get' hy.2
          exact ⟨.p d, by rw [List.getElem?_map, hd]; rfl, .inl ⟨hy.1, fun w2 s2 t2 => rep_pure rd s2 t2⟩⟩)
        exact wpAny_pyIter_list pl.isList (pi_one (tk := s1.toks) I1 _ (turn_list p _) ⟨_, Heap.get?_push_size _ rfl, rfl, rfl⟩ R1)
      · rename_i ps
        cases hi
        obtain ⟨p, xs, rfl, z, rs⟩ := rep_tup.mp r1
        cases rx
        rw [← hK] at z
        have hq : SqT X.K H1 p xs := Same.tup k1.sub z
        obtain ⟨its, _, pl, _⟩ := I1.tuple hq
        have R1 : R (Itt X.K p) H1 := q1 _ w1 H1 x1 k1 (by
          have W1 := walk_tup (K := X.K) (a := p) (xs := xs)
          have l := rs.length
          unfold IterOf
          rw [List.length_map, ← l]
          refine W1.mono (fun H2 h2 => Same.tup h2 z) fun i H2 y H3 hi2 _ hy => ?_
          obtain ⟨d, hd, rd⟩ := rs.get' hy.2
          exact ⟨.p d, by rw [List.getElem?_map, hd]; rfl, .inl ⟨hy.1, fun w2 s2 t2 => rep_pure rd s2 t2⟩⟩)
        exact wpAny_pyIter_tuple (show s1.heap.IsTuple p its.toArray from pl) (pi_one (tk := s1.toks) I1 _ (turn_tuple p _) ⟨_, Heap.get?_push_size _ rfl, rfl, rfl⟩ R1)
      · rename_i z
        cases hi
        have ex := rep_str.mp r1
        subst ex
        obtain ⟨t, rfl⟩ := rx
        have R1 : R (Its z) H1 := q1 _ w1 H1 x1 k1 (by
          have W1 := walk_str (z := z)
          unfold IterOf
          rw [List.length_map, Array.length_toList]
          refine W1.mono (fun H2 h2 => trivial) fun i H2 y H3 hi2 _ hy => ?_
          obtain ⟨e1, c, h1, h2⟩ := hy
          exact ⟨.p (.str ⟨#[c]⟩), by rw [List.getElem?_map, Array.getElem?_toList, h1]; rfl, .inl ⟨e1, fun w2 s2 _ => rep_str.mpr h2⟩⟩)
        cases ha : z.cps.all (· < 128) with
        | false => exact wpAny_pyIter_wide ha (pi_one (tk := s1.toks) I1 _ (turn_str _ z t "str_iterator" (.inr rfl)) ⟨_, Heap.get?_push_size _ rfl, rfl, rfl⟩ R1)
        | true => exact wpAny_pyIter_ascii ha (pi_one (tk := s1.toks) I1 _ (turn_str _ z t "str_ascii_iterator" (.inl rfl)) ⟨_, Heap.get?_push_size _ rfl, rfl, rfl⟩ R1)
      · cases hi
    · exact q1.elim
  · split at q
    · exact hq _ _ q
    · exact q.elim
def rngD (lo : Int) (n : Nat) : List D := (List.range n).map fun (i : Nat) => D.p (.int (lo + (i : Int)))
theorem iter_range {w : Wd} {lo : Int} {n : Nat} : IterOf G w (Itr lo n) (rngD lo n) := by
  have W1 := walk_range (lo := lo) (n := n)
  unfold IterOf
  rw [show (rngD lo n).length = n by simp [rngD]]
  refine W1.mono (fun H2 h2 => trivial) fun i H2 y H3 hi2 _ hy => ?_
  exact ⟨.p (.int (lo + (i : Int))), by simp [rngD, hi2], .inl ⟨hy.1, fun w2 s2 _ => rep_int.mpr hy.2⟩⟩
def wRng (m : WA) : WA := fun r S Q E => m r S (fun ds S1 => match ds with
  | [.p (.int j)] => -(2 ^ 62) ≤ j ∧ j < 2 ^ 62 ∧ Q (rngD 0 j.toNat) S1
  | [.p (.int i), .p (.int j)] => (-(2 ^ 62) ≤ i ∧ i < 2 ^ 62 ∧ -(2 ^ 62) ≤ j ∧ j < 2 ^ 62) ∧ Q (rngD i (j - i).toNat) S1
  | _ => False) E
theorem wRng_mono {m : WA} (h : MonA m) : MonA (wRng m) := fun r S Q Q' E E' hq he h' => h r S _ _ _ _ (fun d S1 q => by
  split at q
  · exact ⟨q.1, q.2.1, hq _ _ q.2.2⟩
  · exact ⟨q.1, hq _ _ q.2⟩
  · exact q.elim) he h'
theorem ri_range1 {tg : Expr} {p pos : Pos} {m : WE} (hg : Gl X "range") (hm : X.mg "range" = none) (ha : RE G X W a m) (hs : starEach [a] X.env = [(false, eval a X.env)] := by rfl) : RI G X W tg (.Call (.Name "range" p) [a] [] pos) (wRng (wCons m wNil)) := by
  have hA : RA G X W [a] (wCons m wNil) := ra_cons ha ra_nil hs
  refine ⟨PI.imp (pi_range1 hg hm hA.pe hs) fun σ H R ⟨w, S, ρ, ok, en, q⟩ => ?_, wRng_mono hA.mono⟩
  refine ⟨w, S, ρ, ok, en, ha.mono ρ S _ _ _ _ (fun d S' q vs w' H' x k r => ?_) (fun _ _ z => z) q⟩
  obtain ⟨y, rfl, ry⟩ := reps1 r
  simp only [wNil] at q
  split at q
  · rename_i j e
    simp only [List.cons.injEq, and_true] at e
    subst e
    exact ⟨j, by rw [rep_int.mp ry], q.1, q.2.1, q.2.2 _ w' H' x k iter_range⟩
  · rename_i i j e
    simp at e
  · exact q.elim
abbrev WF : WX := fun _ _ _ _ => False
def wipeR : Rho → List Nat → Rho
  | r, [] => r
  | r, v :: vs => (wipeR r vs).set v none
theorem wipeR_len (r : Rho) : ∀ vs : List Nat, (wipeR r vs).length = r.length
  | [] => rfl
  | v :: vs => by unfold wipeR; rw [List.length_set, wipeR_len r vs]
theorem wipeR_some {r : Rho} {i : Nat} {x : D} : ∀ {vs : List Nat}, (wipeR r vs)[i]? = some (some x) → r[i]? = some (some x) ∧ i ∉ vs
  | [], h => ⟨h, by simp⟩
  | v :: vs, h => by
    unfold wipeR at h
    by_cases hi : v = i
    · subst hi
      by_cases hv : v < (wipeR r vs).length
      · rw [List.getElem?_set_self hv] at h; cases h
      · rw [List.getElem?_eq_none (by simpa using hv)] at h; cases h
    · rw [List.getElem?_set_ne hi] at h
      obtain ⟨h1, h2⟩ := wipeR_some h
      exact ⟨h1, by simp only [List.mem_cons, not_or]; exact ⟨fun e => hi e.symm, h2⟩⟩
theorem wipe_get {σ : L2.St} {i : Nat} : ∀ {vs : List Nat}, i ∉ vs → (wipe σ vs)[i]? = σ[i]?
  | [], _ => rfl
  | v :: vs, h => by
    unfold wipe
    simp only [List.mem_cons, not_or] at h
    rw [List.getElem?_set_ne (Ne.symm h.1)]
    exact wipe_get h.2
theorem EnvOk.wipe {w : Wd} {σ : L2.St} {r : Rho} (k : EnvOk G w σ r) (vs : List Nat) : EnvOk G w (L2.wipe σ vs) (wipeR r vs) := by
  refine ⟨by rw [wipeR_len, wipe_length]; exact k.len, fun i d h => ?_⟩
  obtain ⟨h1, h2⟩ := wipeR_some h
  rw [wipe_get h2]
  exact k.at_ i d h1
structure RTs (G : Glob) (X : Cx) (W : WX) (ifs : List Expr) (m : WT) : Prop where
  pts : PTs X ifs (tMt G W m)
  mono : MonT m
def wYes : WT := fun _ S Q _ => Q true S
theorem PTs.imp {ifs : List Expr} {t u : TT} (h : PTs X ifs t) (i : ∀ σ H Q, u σ H Q → t σ H Q) : PTs X ifs u := ⟨fun pins s σ H Q I q => h.run pins s σ H Q I (i σ H Q q)⟩
theorem rts_nil : RTs G X W [] wYes := ⟨PTs.imp pts_nil fun σ H Q ⟨w, S, ρ, ok, en, q⟩ => q w H (Ext.refl w H) ok, fun _ _ _ _ _ _ hq _ h => hq _ _ h⟩
def lcRun (T : Tgt) (mt : WT) (me : WE) (r0 : Rho) : List D → List P → Store → (List P → Store → Prop) → Prop
  | [], acc, S, k => k acc S
  | d :: ds, acc, S, k => match bindT T d r0 with
    | none => False
    | some r => mt r S (fun b S1 => if b = true then me r S1 (fun x S2 => match x with
        | .p p => acc.length < sizeLine ∧ lcRun T mt me r0 ds (acc ++ [p]) S2 k
        | _ => False) (fun _ _ => False) else lcRun T mt me r0 ds acc S1 k) (fun _ _ => False)
theorem lcRun_mono {T : Tgt} {mt : WT} {me : WE} (ht : MonT mt) (he : Mon me) {r0 : Rho} : ∀ {ds : List D} {acc : List P} {S : Store} {k k' : List P → Store → Prop}, (∀ ps S, k ps S → k' ps S) → lcRun T mt me r0 ds acc S k → lcRun T mt me r0 ds acc S k'
  | [], _, _, _, _, hk, h => hk _ _ h
  | d :: ds, acc, S, k, k', hk, h => by
    unfold lcRun at h ⊢
    split at h
    · exact h.elim
    · refine ht _ _ _ _ _ _ (fun b S1 q => ?_) (fun _ _ z => z) h
      split at q
      · rename_i hb
        rw [if_pos hb]
        refine he _ _ _ _ _ _ (fun x S2 q => ?_) (fun _ _ z => z) q
        split at q
        · exact ⟨q.1, lcRun_mono ht he hk q.2⟩
        · exact q.elim
      · rename_i hb
        rw [if_neg hb]
        exact lcRun_mono ht he hk q
def wLC (mi : WA) (T : Tgt) (mt : WT) (me : WE) (vs : List Nat) : WE := fun r S Q E => mi r S (fun ds S1 => lcRun T mt me (wipeR r vs) ds [] S1 (fun ps S2 => Q (.p (.lst ps)) S2)) E
theorem mon_lc {mi : WA} {T : Tgt} {mt : WT} {me : WE} {vs : List Nat} (hi : MonA mi) (ht : MonT mt) (he : Mon me) : Mon (wLC mi T mt me vs) := fun r S Q Q' E E' hq he' h => hi r S _ _ _ _ (fun ds S1 q => lcRun_mono ht he (fun ps S z => hq _ _ z) q) he' h
theorem Wok.touch {w : Wd} {S : Store} {H : Hp} {p : Addr} {o : HO} (k : Wok G w S H) (h1 : w.I p = none) (h2 : p ∉ w.as) (h0 : p ∉ w.ts) : Wok G w S (upd H p o) := by
  refine ⟨fun b u h => ?_, k.len, k.nd, k.tb.step rfl (Same.refl _) ⟨[], by simp⟩ fun P ps m e i n => ⟨by rw [upd_ne (fun z => h0 (by rw [← z]; exact m))]; exact e, i, n⟩, fun n c a h3 h4 => ?_⟩
  · have nb : b ≠ p := fun z => by rw [z, h1] at h; cases h
    rw [upd_ne nb]; exact k.sub b u h
  · have ne : a ≠ p := fun z => h2 (z ▸ List.mem_of_getElem? h4)
    exact (k.cells n c a h3 h4).grow (Same.refl _) (fun z => z) (upd_ne ne)
theorem Ext.touch {w w' : Wd} {H H' : Hp} {p : Addr} {o : HO} (x : Ext w H w' H') (hp : H p = none) : Ext w H w' (upd H' p o) :=
  ⟨x.I, x.as, x.ts, fun b u h n m => by rw [upd_ne (ne_of_none h hp)]; exact x.frame b u h n m, x.fresh, fun b u h => by
    obtain ⟨u', h'⟩ := x.there b u h
    exact ⟨u', by rw [upd_ne (ne_of_none h hp)]; exact h'⟩⟩
theorem Wok.take {w : Wd} {S : Store} {H : Hp} {p : Addr} {o : HO} (k : Wok G w S H) (hp : H p = some o) (h1 : w.I p = none) (h2 : p ∉ w.as) (h0 : p ∉ w.ts) : Wok G ⟨upd w.I p o, w.as, w.ts⟩ S H := by
  refine ⟨fun b u h => ?_, k.len, k.nd, k.tb.step rfl (Same.upd _ h1) ⟨[], by simp⟩ fun P ps m e i n => ⟨e, by show upd w.I p o P = none; rw [upd_ne (fun z => h0 (by rw [← z]; exact m))]; exact i, n⟩, fun n c a h3 h4 => ?_⟩
  · have h : upd w.I p o b = some u := h
    by_cases e : b = p
    · subst e; rw [upd_same] at h; cases h; exact hp
    · rw [upd_ne e] at h; exact k.sub b u h
  · have h4 : w.as[n]? = some a := h4
    have ne : a ≠ p := fun z => h2 (z ▸ List.mem_of_getElem? h4)
    refine (k.cells n c a h3 h4).grow (Same.upd _ h1) (fun z => ?_) rfl
    show upd w.I p o a = none
    rw [upd_ne ne]; exact z
theorem Ext.take {w w' : Wd} {H H' : Hp} {p : Addr} {o : HO} (x : Ext w H w' H') (hp : H p = none) (h1 : w'.I p = none) : Ext w H ⟨upd w'.I p o, w'.as, w'.ts⟩ H' :=
  ⟨x.I.trans (Same.upd _ h1), x.as, x.ts, x.frame, fun b u h n => ⟨(x.fresh b u h n).1, fun z => by
    show upd w'.I p o b = none
    rw [upd_ne (ne_of_none h hp)]
    exact (x.fresh b u h n).2 z⟩, x.there⟩
theorem lc_inG (hK : X.K = G.K) {mi : WA} {T : Tgt} {mt : WT} {me : WE} {own : List Nat} (hi : MonA mi) (ht : MonT mt) (he : Mon me) (hT : ∀ i ∈ T.slots, i ∈ own) {σ : L2.St} {H : Hp} {Q : VK} {Kf : List P → Store → Prop} {w : Wd} {S : Store} {ρ : Rho} (ok : Wok G w S H) (en : EnvOk G w σ ρ)
    (q : mi ρ S (fun ds S1 => lcRun T mt me (wipeR ρ own) ds [] S1 Kf) (Qx G w H fun c d H' => W c d σ H'))
    (fin : ∀ (acc : List P) (S2 : Store) (w2 : Wd) (Hc : Hp) (D : Addr) (vs : List V), Ext w H w2 Hc → Wok G w2 S2 Hc → Hc D = some (.lst vs) → w2.I D = none → D ∉ w2.as → Reps G w2 vs acc → H D = none → Kf acc S2 → Q (.ref D) Hc) :
    tLc (tMi G W mi) (gT X.K T) (tMt G WF mt) (tM G WF me) own σ H Q := by
  refine ⟨w, S, ρ, ok, en, hi ρ S _ _ _ _ (fun ds S1 q1 J w1 H1 x1 k1 it D hD => ?_) (fun _ _ z => z) q⟩
  have en1 := en.mono x1
  obtain ⟨k1', x1'⟩ := k1.allocX (o := .lst []) hD
  have nI : w1.I D = none := k1.freeI hD
  have nA : D ∉ w1.as := k1.freeAs hD
  refine lc_it it (fun i Hc => ∃ w2 S2 acc vs, Ext w1 H1 w2 Hc ∧ Wok G w2 S2 Hc ∧ Hc D = some (.lst vs) ∧ w2.I D = none ∧ D ∉ w2.as ∧ Reps G w2 vs acc ∧ lcRun T mt me (wipeR ρ own) (ds.drop i) acc S2 Kf) ?_ ?_ ?_ ?_
  · exact ⟨w1, S1, [], [], x1', k1', upd_same, nI, nA, Reps.nil, by simpa using q1⟩
  · rintro i Hc _ ⟨w2, S2, acc, vs, x2, k2, _⟩
    exact x2.I.trans k2.sub
  · rintro i x Hc Hd hi' ⟨w2, S2, acc, vs, x2, k2, hDc, nI2, nA2, rs, run⟩ ⟨d, hd, y⟩
    have hds : ds.drop i = d :: ds.drop (i + 1) := by
      rw [List.drop_eq_getElem_cons hi']
      congr 1
      rw [List.getElem?_eq_getElem hi'] at hd
      exact Option.some.inj hd
    rw [hds] at run
    unfold lcRun at run
    -- the world behind the item
    have big : ∃ w3, Ext w1 H1 w3 Hd ∧ Wok G w3 S2 Hd ∧ Hd D = some (.lst vs) ∧ w3.I D = none ∧ D ∉ w3.as ∧ Reps G w3 vs acc ∧ RepD G w3 x d := by
      rcases y with ⟨e, y⟩ | ⟨Tn, xs, ps, e1, e2, e3, e4, rp⟩
      · subst e
        exact ⟨w2, x2, k2, hDc, nI2, nA2, rs, y w2 x2.I x2.as⟩
      · subst e1; subst e2; subst e4
        obtain ⟨k3, x3⟩ := k2.alloc (o := .tup xs) e3
        have nD : D ≠ Tn := ne_of_none hDc e3
        refine ⟨_, x2.trans x3, k3, by rw [upd_ne nD]; exact hDc, ?_, nA2, rs.mono x3.I x3.as, rep_tup.mpr ⟨Tn, xs, rfl, SqT.of upd_same, rp.mono (x2.I.trans x3.I) (x2.trans x3).as⟩⟩
        show upd w2.I Tn _ D = none
        rw [upd_ne nD]; exact nI2
    obtain ⟨w3, x3, k3, hD3, nI3, nA3, rs3, rx⟩ := big
    split at run
    · exact run.elim
    · rename_i r hb
      refine gT_ok hK.symm k3 rx ((en1.mono x3).wipe own) hb fun σ2 en2 hw => ⟨?_, ?_⟩
      · rw [hw own hT]
        have : ∀ us : List Nat, wipe (wipe σ us) us = wipe σ us := by
          intro us
          have g : ∀ vs : List Nat, (∀ v ∈ vs, v ∈ us) → ∀ τ : L2.St, wipe τ us = wipe σ us → wipe (wipe τ vs) us = wipe σ us := by
            intro vs
            induction vs with
            | nil => intro _ τ h; exact h
            | cons v vs ih =>
              intro hv τ h
              have := ih (fun u hu => hv u (List.mem_cons_of_mem _ hu)) τ h
              show wipe ((wipe τ vs).set v none) us = _
              rw [wipe_set (hv v List.mem_cons_self)]
              exact this
          exact g us (fun _ h => h) σ rfl
        exact this own
      · refine ⟨w3, S2, r, k3, en2, ht r S2 _ _ _ _ (fun b S3 q3 w4 H4 x4 k4 => ?_) (fun _ _ z => z.elim) run⟩
        have hD4 := x4.frame D _ hD3 nA3 (k3.notTs hD3 fun _ z => nomatch z)
        obtain ⟨nA4, nI4⟩ := x4.fresh D _ hD3 nA3
        have nI4 := nI4 nI3
        split at q3
        · rename_i hb'
          subst hb'
          refine iteT ?_
          refine ⟨w4, S3, r, k4, en2.mono x4, he r S3 _ _ _ _ (fun x5 S5 q5 v w5 H5 x5' k5 r5 => ?_) (fun _ _ z => z.elim) q3⟩
          have hD5 := x5'.frame D _ hD4 nA4 (k4.notTs hD4 fun _ z => nomatch z)
          obtain ⟨nA5, nI5⟩ := x5'.fresh D _ hD4 nA4
          have nI5 := nI5 nI4
          split at q5
          · rename_i p
            have rs5 := (rs3.mono x4.I x4.as).mono x5'.I x5'.as
            refine ⟨vs, hD5, by rw [rs5.length]; exact q5.1, w5, S5, acc ++ [p], vs ++ [v], ((x3.trans x4).trans x5').touch hD, k5.touch nI5 nA5 (k5.notTs hD5 fun _ z => nomatch z), upd_same, nI5, nA5, rs5.append (Reps.cons r5 Reps.nil), q5.2⟩
          · exact q5.elim
        · rename_i hb'
          have hb' : b = false := by simpa using hb'
          subst hb'
          refine iteF ?_
          exact ⟨w4, S3, acc, vs, x3.trans x4, k4, hD4, nI4, nA4, rs3.mono x4.I x4.as, q3⟩
  · rintro Hc ⟨w2, S2, acc, vs, x2, k2, hDc, nI2, nA2, rs, run⟩
    rw [List.drop_length] at run
    have nD0 : H D = none := by
      cases z : H D with
      | none => rfl
      | some o =>
        obtain ⟨o', z'⟩ := x1.there D o z
        rw [hD] at z'; cases z'
    exact fin acc S2 w2 Hc D vs (x1.trans x2) k2 hDc nI2 nA2 rs nD0 run
theorem lc_in (hK : X.K = G.K) {mi : WA} {T : Tgt} {mt : WT} {me : WE} {own : List Nat} (hi : MonA mi) (ht : MonT mt) (he : Mon me) (hT : ∀ i ∈ T.slots, i ∈ own) {σ : L2.St} {H : Hp} {Q : VK} (h : tM G W (wLC mi T mt me own) σ H Q) :
    tLc (tMi G W mi) (gT X.K T) (tMt G WF mt) (tM G WF me) own σ H Q := by
  obtain ⟨w, S, ρ, ok, en, q⟩ := h
  exact lc_inG hK hi ht he hT ok en q fun acc S2 w2 Hc D vs x k2 hDc nI2 nA2 rs nD0 run => run (.ref D) _ Hc (x.take nD0 nI2) (k2.take hDc nI2 nA2 (k2.notTs hDc fun _ z => nomatch z)) (rep_lst.mpr ⟨D, vs, rfl, upd_same, rs.mono (Same.upd _ nI2)⟩)
theorem re_lc {elt tg iter : Expr} {ifs : List Expr} {scope : Scope} {own : List (Str × Nat)} {pos : Pos} {mi : WA} {T : Tgt} {mt : WT} {me : WE} (hK : X.K = G.K) (hc : X.calm = true) (hN : X.N.Nodup) (hi : RI G X W tg iter mi) (ok : BlkOk X.N X.env.scope scope own) (hT : ∀ i ∈ T.slots, i ∈ own.map (·.2))
    (hg : ∀ (s : Shared) (H : Hp) (C : Addr) (cl : List (Str × Addr)) (fp : List Addr), PG (X.blk s H scope (compEnvC scope cl C X.env) fp) tg (gT X.K T)) (ht : ∀ (s : Shared) (H : Hp) (C : Addr) (cl : List (Str × Addr)) (fp : List Addr), RTs G (X.blk s H scope (compEnvC scope cl C X.env) fp) WF ifs mt)
    (he : ∀ (s : Shared) (H : Hp) (C : Addr) (cl : List (Str × Addr)) (fp : List Addr), RE G (X.blk s H scope (compEnvC scope cl C X.env) fp) WF elt me) (hs : ∀ x, foldedSetIterable iter X.env x = pure x := by intro _; rfl) :
    RE G X W (.ListComp elt [⟨tg, iter, ifs, 0⟩] scope pos) (wLC mi T mt me (own.map (·.2))) :=
  ⟨PE.imp (pe_lc hc hN hi.pi ok hg (fun s H C cl fp => (ht s H C cl fp).pts) (fun s H C cl fp => (he s H C cl fp).pe) hs) fun σ H Q h => lc_in hK hi.mono (ht X.s_0 X.H_0 0 [] []).mono (he X.s_0 X.H_0 0 [] []).mono hT h, mon_lc hi.mono (ht X.s_0 X.H_0 0 [] []).mono (he X.s_0 X.H_0 0 [] []).mono⟩
end
end RB
namespace RB
open PySem PySem.Spec PyProof.Rows L2
structure DE where
  nx : Rho → Store → Prop
  rt : DK
  bk : Rho → Store → Prop
  ct : Rho → Store → Prop
  xc : Rho → EK
abbrev WS := DE → Rho → Store → Prop
def Sn (G : Glob) (w : Wd) (H : Hp) (N : L2.St → Hp → Prop) : Rho → Store → Prop := fun r S => ∀ σ w' H', Ext w H w' H' → Wok G w' S H' → EnvOk G w' σ r → N σ H'
def Sx (G : Glob) (w : Wd) (H : Hp) (W : WX) : Rho → EK := fun r x S => ∀ σ cls dd w' H', Ext w H w' H' → Wok G w' S H' → EnvOk G w' σ r → RepX G w' cls dd x → W cls dd σ H'
def lowE (G : Glob) (w : Wd) (H : Hp) (W : WX) (D : Ends) : DE := ⟨Sn G w H D.nx, Qv G w H D.rt, Sn G w H D.bk, Sn G w H D.ct, Sx G w H W⟩
def tMs (G : Glob) (W : WX) (m : WS) : TS := fun D σ H => ∃ w S r, Wok G w S H ∧ EnvOk G w σ r ∧ m (lowE G w H W D) r S
structure DE.le (D D' : DE) : Prop where
  nx : ∀ r S, D.nx r S → D'.nx r S
  rt : ∀ d S, D.rt d S → D'.rt d S
  bk : ∀ r S, D.bk r S → D'.bk r S
  ct : ∀ r S, D.ct r S → D'.ct r S
  xc : ∀ r x S, D.xc r x S → D'.xc r x S
def MonS (m : WS) : Prop := ∀ D D' r S, DE.le D D' → m D r S → m D' r S
structure RS (G : Glob) (X : Cx) (W : WX) (st : Stmt) (m : WS) : Prop where
  ps : PS X st (tMs G W m)
  mono : MonS m
structure RSs (G : Glob) (X : Cx) (W : WX) (st : List Stmt) (m : WS) : Prop where
  ps : PSs X st (tMs G W m)
  mono : MonS m
theorem PS.imp {X : Cx} {e : Stmt} {t u : TS} (h : PS X e t) (i : ∀ D σ H, u D σ H → t D σ H) : PS X e u := ⟨fun pins s σ H D I q => h.run pins s σ H D I (i D σ H q)⟩
theorem PSs.imp {X : Cx} {e : List Stmt} {t u : TS} (h : PSs X e t) (i : ∀ D σ H, u D σ H → t D σ H) : PSs X e u := ⟨fun pins s σ H D I q => h.run pins s σ H D I (i D σ H q)⟩
section
variable {G : Glob} {X : Cx} {W : WX} {e a b c : Expr} {pos : Pos} {st : Stmt} {rest : List Stmt}
theorem Sn.ext {w w1 : Wd} {H H1 : Hp} {N : L2.St → Hp → Prop} (x : Ext w H w1 H1) {r : Rho} {S : Store} (q : Sn G w H N r S) : Sn G w1 H1 N r S := fun σ w' H' y k en => q σ w' H' (x.trans y) k en
theorem Sx.ext {w w1 : Wd} {H H1 : Hp} (x : Ext w H w1 H1) {r : Rho} {y : Exc} {S : Store} (q : Sx G w H W r y S) : Sx G w1 H1 W r y S := fun σ c d w' H' z k en rx => q σ c d w' H' (x.trans z) k en rx
theorem lowE.ext {w w1 : Wd} {H H1 : Hp} {D : Ends} (x : Ext w H w1 H1) : DE.le (lowE G w H W D) (lowE G w1 H1 W D) := ⟨fun _ _ q => q.ext x, fun _ _ q => q.ext x, fun _ _ q => q.ext x, fun _ _ q => q.ext x, fun _ _ _ q => q.ext x⟩
theorem Sx.at_ {w : Wd} {H : Hp} {σ : L2.St} {r : Rho} (en : EnvOk G w σ r) {y : Exc} {S : Store} (q : Sx G w H W r y S) : Qx G w H (fun c d H' => W c d σ H') y S := fun c d w' H' x k rx => q σ c d w' H' x k (en.mono x) rx
theorem tM.low {m : WE} (hm : Mon m) {σ : L2.St} {H : Hp} {w : Wd} {S : Store} {r : Rho} {k : DK} {Q : VK} (ok : Wok G w S H) (en : EnvOk G w σ r) (h : m r S k (Sx G w H W r))
    (hk : ∀ d S' v w' H', Ext w H w' H' → Wok G w' S' H' → RepD G w' v d → k d S' → Q v H') : tM G W m σ H Q :=
  tM.bind hm ok en (hm r S _ _ _ _ (fun _ _ q => q) (fun x S' q => q.at_ en) h) (fun _ _ _ z => z) hk
theorem tMt.low {m : WT} (hm : MonT m) {σ : L2.St} {H : Hp} {w : Wd} {S : Store} {r : Rho} {k : Bool → Store → Prop} {Q : Bool → Hp → Prop} (ok : Wok G w S H) (en : EnvOk G w σ r) (h : m r S k (Sx G w H W r))
    (hk : ∀ b S' w' H', Ext w H w' H' → Wok G w' S' H' → k b S' → Q b H') : tMt G W m σ H Q :=
  tMt.bind hm ok en (hm r S _ _ _ _ (fun _ _ q => q) (fun x S' q => q.at_ en) h) (fun _ _ _ z => z) hk
def wNext : WS := fun D r S => D.nx r S
def wSeq (m1 m2 : WS) : WS := fun D r S => m1 { D with nx := m2 D } r S
theorem rss_nil : RSs G X W [] wNext := ⟨PSs.imp pss_nil fun D σ H ⟨w, S, ρ, ok, en, q⟩ => q σ w H (Ext.refl w H) ok en, fun _ _ _ _ l h => l.nx _ _ h⟩
theorem rss_cons {m1 m2 : WS} (h1 : RS G X W st m1) (h2 : RSs G X W rest m2) : RSs G X W (st :: rest) (wSeq m1 m2) := by
  refine ⟨PSs.imp (pss_cons h1.ps h2.ps) fun D σ H ⟨w, S, ρ, ok, en, q⟩ => ?_, fun D D' r S l h => h1.mono { D with nx := m2 D } { D' with nx := m2 D' } r S ⟨fun r' S' q => h2.mono D D' r' S' l q, l.rt, l.bk, l.ct, l.xc⟩ h⟩
  refine ⟨w, S, ρ, ok, en, h1.mono { lowE G w H W D with nx := m2 (lowE G w H W D) } _ _ _ ⟨fun r' S' q σ' w' H' x k en' => ?_, fun _ _ q => q, fun _ _ q => q, fun _ _ q => q, fun _ _ _ q => q⟩ q⟩
  exact ⟨w', S', r', k, en', h2.mono _ _ _ _ (lowE.ext x) q⟩
theorem rss_one {m : WS} (h : RS G X W st m) : RSs G X W [st] m := ⟨pss_one h.ps, h.mono⟩
def wBreak : WS := fun D r S => D.bk r S
def wCont : WS := fun D r S => D.ct r S
def wRet (m : WE) : WS := fun D r S => m r S D.rt (D.xc r)
theorem rs_ret {m : WE} (h : RE G X W e m) : RS G X W (.Return (some e) pos) (wRet m) :=
  ⟨PS.imp (ps_ret h.pe) fun D σ H ⟨w, S, ρ, ok, en, q⟩ => tM.low h.mono ok en q fun d S' v w' H' x k r q => q v w' H' x k r, fun D D' r S l q => h.mono _ _ _ _ _ _ l.rt (l.xc r) q⟩
def wRetN : WS := fun D _ S => D.rt (.p .non) S
def wDrop (m : WE) : WS := fun D r S => m r S (fun _ S1 => D.nx r S1) (D.xc r)
theorem rs_expr {m : WE} (h : RE G X W e m) (hs : swapsWith e none pos.line X.env = pure false := by rfl) : RS G X W (.Expr e pos) (wDrop m) :=
  ⟨PS.imp (ps_expr h.pe hs) fun D σ H ⟨w, S, ρ, ok, en, q⟩ => tM.low h.mono ok en q fun d S' v w' H' x k r q => q σ w' H' x k (en.mono x), fun D D' r S l q => h.mono _ _ _ _ _ _ (fun _ _ q => l.nx _ _ q) (l.xc r) q⟩
def wSet (i : Nat) (m : WE) : WS := fun D r S => m r S (fun d S1 => D.nx (r.set i (some d)) S1) (D.xc r)
theorem mon_set {i : Nat} {m : WE} (h : Mon m) : MonS (wSet i m) := fun D D' r S l q => h _ _ _ _ _ _ (fun _ _ q => l.nx _ _ q) (l.xc r) q
theorem rs_set {i : Nat} {x : Str} {pos' : Pos} {m : WE} (hN : X.N.Nodup) (hi : X.N[i]? = some x) (hx : Loc X.env.scope x) (h : RE G X W e m) (hs : swapsWith e (some (.Name x pos')) pos.line X.env = pure false := by rfl) (hf : X.fn x = true ∨ X.env.scope.names.lookup x = some .local := by first | exact .inl rfl | exact .inr rfl | assumption) :
    RS G X W (.Assign [.Name x pos'] e pos) (wSet i m) :=
  ⟨PS.imp (ps_set hN hi hx h.pe hs hf) fun D σ H ⟨w, S, ρ, ok, en, q⟩ => tM.low h.mono ok en q fun d S' v w' H' x k r q => q _ w' H' x k ((en.mono x).set r i), mon_set h.mono⟩
theorem rs_setLc {i : Nat} {y : Str} {py spos : Pos} {elt tg iter : Expr} {ifs : List Expr} {scope : Scope} {own : List (Str × Nat)} {pos : Pos} {mi : WA} {T : Tgt} {mt : WT} {me : WE} (hK : X.K = G.K) (hc : X.calm = true) (hN : X.N.Nodup) (hy : X.N[i]? = some y) (hyl : X.env.scope.names.lookup y = some .local)
    (hsw : swapsWith (.ListComp elt [⟨tg, iter, ifs, 0⟩] scope pos) (some (.Name y py)) spos.line X.env = pure true) (hi : RI G X W tg iter mi) (ok : BlkOk X.N X.env.scope scope own) (hT : ∀ i ∈ T.slots, i ∈ own.map (·.2))
    (hg : ∀ (s : Shared) (H : Hp) (C : Addr) (cl : List (Str × Addr)) (fp : List Addr), PG (X.blk s H scope (compEnvC scope cl C X.env) fp) tg (gT X.K T)) (ht : ∀ (s : Shared) (H : Hp) (C : Addr) (cl : List (Str × Addr)) (fp : List Addr), RTs G (X.blk s H scope (compEnvC scope cl C X.env) fp) WF ifs mt)
    (he : ∀ (s : Shared) (H : Hp) (C : Addr) (cl : List (Str × Addr)) (fp : List Addr), RE G (X.blk s H scope (compEnvC scope cl C X.env) fp) WF elt me) (hs : ∀ x, foldedSetIterable iter X.env x = pure x := by intro _; rfl) :
    RS G X W (.Assign [.Name y py] (.ListComp elt [⟨tg, iter, ifs, 0⟩] scope pos) spos) (wSet i (wLC mi T mt me (own.map (·.2)))) :=
  ⟨PS.imp (ps_setLc hc hN hy hyl hsw hi.pi ok hg (fun s H C cl fp => (ht s H C cl fp).pts) (fun s H C cl fp => (he s H C cl fp).pe) hs) fun D σ H ⟨w, S, ρ, ok, en, q⟩ =>
    lc_in hK hi.mono (ht X.s_0 X.H_0 0 [] []).mono (he X.s_0 X.H_0 0 [] []).mono hT (tM.low (mon_lc hi.mono (ht X.s_0 X.H_0 0 [] []).mono (he X.s_0 X.H_0 0 [] []).mono) ok en q fun d S' v w' H' x k r q => q _ w' H' x k ((en.mono x).set r i)),
    mon_set (mon_lc hi.mono (ht X.s_0 X.H_0 0 [] []).mono (he X.s_0 X.H_0 0 [] []).mono)⟩
def wIfS (t : WT) (m1 m2 : WS) : WS := fun D r S => t r S (fun b S1 => if b = true then m1 D r S1 else m2 D r S1) (D.xc r)
theorem rs_if {t : WT} {m1 m2 : WS} {bd el : List Stmt} (hc : RT G X W c t) (h1 : RSs G X W bd m1) (h2 : RSs G X W el m2) : RS G X W (.If c bd el pos) (wIfS t m1 m2) := by
  refine ⟨PS.imp (ps_if hc.pe h1.ps h2.ps) fun D σ H ⟨w, S, ρ, ok, en, q⟩ => ?_, fun D D' r S l q => hc.mono _ _ _ _ _ _ (fun b S1 q => ?_) (l.xc r) q⟩
  · refine tMt.low hc.mono ok en q fun b S' w' H' x k q => ?_
    cases b with
    | true => exact iteT ⟨w', S', ρ, k, en.mono x, h1.mono _ _ _ _ (lowE.ext x) (by simpa using q)⟩
    | false => exact iteF ⟨w', S', ρ, k, en.mono x, h2.mono _ _ _ _ (lowE.ext x) (by simpa using q)⟩
  · cases b with
    | true => exact iteT (h1.mono _ _ _ _ l (by simpa using q))
    | false => exact iteF (h2.mono _ _ _ _ l (by simpa using q))
def forRun (T : Tgt) (mb : WS) (D : DE) : List RB.D → Rho → Store → Prop
  | [], r, S => D.nx r S
  | d :: ds, r, S => match bindT T d r with
    | none => False
    | some r' => mb { D with nx := fun r S => forRun T mb D ds r S, ct := fun r S => forRun T mb D ds r S, bk := D.nx } r' S
theorem forRun_mono {T : Tgt} {mb : WS} (hb : MonS mb) {D D' : DE} (l : DE.le D D') : ∀ {ds : List RB.D} {r : Rho} {S : Store}, forRun T mb D ds r S → forRun T mb D' ds r S
  | [], _, _, h => l.nx _ _ h
  | d :: ds, r, S, h => by
    unfold forRun at h ⊢
    split at h
    · exact h.elim
    · exact hb { D with nx := fun r S => forRun T mb D ds r S, ct := fun r S => forRun T mb D ds r S, bk := D.nx } _ _ _ ⟨fun r S q => forRun_mono hb l q, l.rt, l.nx, fun r S q => forRun_mono hb l q, l.xc⟩ h
def wFor (mi : WA) (T : Tgt) (mb : WS) : WS := fun D r S => mi r S (fun ds S1 => forRun T mb D ds r S1) (D.xc r)
theorem rs_for {tg iter : Expr} {body : List Stmt} {mi : WA} {T : Tgt} {mb : WS} (hK : X.K = G.K) (hp : PassesOwn (model X.prog X.w) X.A X.env X.xe) (hc : X.calm = true) (hi : RI G X W tg iter mi) (hg : PG X tg (gT X.K T)) (hb : RSs G X W body mb)
    (hs : ∀ x, foldedSetIterable iter X.env x = pure x := by intro _; rfl) : RS G X W (.For tg iter body [] pos) (wFor mi T mb) := by
  refine ⟨PS.imp (ps_for hp hc hi.pi hg hb.ps hs) fun D σ H ⟨w, S, ρ, ok, en, q⟩ => ?_, fun D D' r S l q => hi.mono _ _ _ _ _ _ (fun ds S1 q => forRun_mono hb.mono l q) (l.xc r) q⟩
  refine ⟨w, S, ρ, ok, en, hi.mono ρ S _ _ _ _ (fun ds S1 q1 J w1 H1 x1 k1 it => ?_) (fun y S' q => q.at_ en) q⟩
  have q1 : forRun T mb (lowE G w1 H1 W D) ds ρ S1 := forRun_mono hb.mono (lowE.ext x1) q1
  refine for_it it (fun i τ Hc => ∃ w2 S2 r, Ext w1 H1 w2 Hc ∧ Wok G w2 S2 Hc ∧ EnvOk G w2 τ r ∧ forRun T mb (lowE G w1 H1 W D) (ds.drop i) r S2) ?_ ?_ ?_ ?_
  · exact ⟨w1, S1, ρ, Ext.refl _ _, k1, en.mono x1, by simpa using q1⟩
  · rintro i τ Hc _ ⟨w2, S2, r, x2, k2, _⟩
    exact x2.I.trans k2.sub
  · rintro i x τ Hc Hd hi' ⟨w2, S2, r, x2, k2, en2, run⟩ ⟨d, hd, y⟩
    have hds : ds.drop i = d :: ds.drop (i + 1) := by
      rw [List.drop_eq_getElem_cons hi']
      congr 1
      rw [List.getElem?_eq_getElem hi'] at hd
      exact Option.some.inj hd
    rw [hds] at run
    unfold forRun at run
    have big : ∃ w3, Ext w1 H1 w3 Hd ∧ Wok G w3 S2 Hd ∧ EnvOk G w3 τ r ∧ RepD G w3 x d := by
      rcases y with ⟨e, y⟩ | ⟨Tn, xs, ps, e1, e2, e3, e4, rp⟩
      · subst e
        exact ⟨w2, x2, k2, en2, y w2 x2.I x2.as⟩
      · subst e1; subst e2; subst e4
        obtain ⟨k3, x3⟩ := k2.alloc (o := .tup xs) e3
        exact ⟨_, x2.trans x3, k3, en2.mono x3, rep_tup.mpr ⟨Tn, xs, rfl, SqT.of upd_same, rp.mono (x2.I.trans x3.I) (x2.trans x3).as⟩⟩
    obtain ⟨w3, x3, k3, en3, rx⟩ := big
    split at run
    · exact run.elim
    · rename_i r' hb'
      refine gT_ok hK.symm k3 rx en3 hb' fun σ2 en4 _ => ⟨w3, S2, r', k3, en4, hb.mono _ _ _ _ ?_ run⟩
      exact ⟨fun r S q τ w4 H4 x4 k4 en5 => ⟨w4, S, r, x3.trans x4, k4, en5, q⟩, fun d S q => q.ext x3, fun r S q => Sn.ext x3 q, fun r S q τ w4 H4 x4 k4 en5 => ⟨w4, S, r, x3.trans x4, k4, en5, q⟩, fun r y S q => q.ext x3⟩
  · rintro τ Hc ⟨w2, S2, r, x2, k2, en2, run⟩
    rw [List.drop_length] at run
    exact run τ w2 Hc x2 k2 en2
end
end RB
namespace RB
open PySem PySem.Spec PyProof.Rows L2
abbrev DSp := List D → Store → DK → EK → Prop
def DMon (sp : DSp) : Prop := ∀ ds S Q Q' E E', (∀ d S, Q d S → Q' d S) → (∀ x S, E x S → E' x S) → sp ds S Q E → sp ds S Q' E'
def spV (G : Glob) (sp : DSp) : Sp := fun vs H Q E => ∃ w S ds, Wok G w S H ∧ RepDs G w vs ds ∧ sp ds S (Qv G w H Q) (Qx G w H E)
structure FnG (G : Glob) (P : Program) (w : World) (mg : Str → Option Value) (base : Heap) (k : Nat) (f : Addr) (fd : FuncData) (ps : List Str) (sp : DSp) : Prop where
  mono : DMon sp
  len : ∀ ds S Q E, sp ds S Q E → ds.length = ps.length
  run : ∀ (A : Around) (outer : List Env) (s : Shared) (H : Hp) (args : Args) (us : List Value) (vs : List V) (Q : VK) (E : XK), Room k A → A.guards = some [] → Env0 P w G.K mg base A outer s H → BindsTo s fd args (ps.zip us) → Vals vs us → spV G sp vs H Q E →
    codeAny (model P w) A (.call (.ref f) args) (CR (L2.CX P w) outer P w H s Q E) s
theorem FnG.up {G : Glob} {P : Program} {w : World} {mg : Str → Option Value} {base : Heap} {j k : Nat} {f : Addr} {fd : FuncData} {ps : List Str} {sp : DSp} (F : FnG G P w mg base j f fd ps sp) (h : j ≤ k) : FnG G P w mg base k f fd ps sp :=
  ⟨F.mono, F.len, fun A outer s H args us vs Q E hr => F.run A outer s H args us vs Q E (hr.mono h)⟩
theorem FnG.imp {G : Glob} {P : Program} {w : World} {mg : Str → Option Value} {base : Heap} {k : Nat} {f : Addr} {fd : FuncData} {ps : List Str} {sp sp' : DSp} (F : FnG G P w mg base k f fd ps sp) (m : DMon sp') (h : ∀ ds S Q E, sp' ds S Q E → sp ds S Q E) : FnG G P w mg base k f fd ps sp' :=
  ⟨m, fun ds S Q E q => F.len ds S Q E (h _ _ _ _ q), fun A outer s H args us vs Q E hr hg e0 hb hv ⟨w, S, ds, k, r, q⟩ => F.run A outer s H args us vs Q E hr hg e0 hb hv ⟨w, S, ds, k, r, h _ _ _ _ q⟩⟩
theorem RepDs.length {G : Glob} {w : Wd} : ∀ {vs : List V} {ds : List D}, RepDs G w vs ds → vs.length = ds.length
  | [], [], _ => rfl
  | _ :: _, _ :: _, ⟨_, t⟩ => by simp [RepDs.length t]
  | [], _ :: _, h => h.elim
  | _ :: _, [], h => h.elim
theorem RepDs.append {G : Glob} {w : Wd} : ∀ {vs us : List V} {ds es : List D}, RepDs G w vs ds → RepDs G w us es → RepDs G w (vs ++ us) (ds ++ es)
  | [], _, [], _, _, t => t
  | _ :: _, _, _ :: _, _, ⟨h, r⟩, t => ⟨h, RepDs.append r t⟩
  | [], _, _ :: _, _, h, _ => h.elim
  | _ :: _, _, [], _, h, _ => h.elim
theorem RepDs.get {G : Glob} {w : Wd} : ∀ {vs : List V} {ds : List D} {i : Nat} {d : D}, RepDs G w vs ds → ds[i]? = some d → ∃ v, vs[i]? = some v ∧ RepD G w v d
  | [], [], _, _, _, e => by simp at e
  | v :: vs, d' :: ds, 0, _, ⟨h, _⟩, e => by simp at e; subst e; exact ⟨v, rfl, h⟩
  | v :: vs, d' :: ds, i + 1, _, ⟨_, t⟩, e => by simpa using RepDs.get t (by simpa using e)
  | [], _ :: _, _, _, h, _ => h.elim
  | _ :: _, [], _, _, h, _ => h.elim
def startR (N : List Str) (ds : List D) : Rho := ds.map some ++ List.replicate (N.length - ds.length) none
def cutD (n : Nat) (d : D) (S : Store) : Store := match d with
  | .p _ => S.take n
  | .cell m => if m < n then S.take n else S
  | .fn => S.take n
def endsF (n : Nat) (Q : DK) (E : EK) : DE := ⟨fun _ S => Q (.p .non) (S.take n), fun d S => Q d (cutD n d S), fun _ _ => False, fun _ _ => False, fun _ x S => E x (S.take n)⟩
theorem start_ok {G : Glob} {w : Wd} {N : List Str} {vs : List V} {ds : List D} (r : RepDs G w vs ds) : EnvOk G w (L2.start N vs) (startR N ds) := by
  have l := r.length
  refine ⟨by simp [L2.start, startR, l], fun i d h => ?_⟩
  unfold startR at h
  by_cases hi : i < ds.length
  · rw [List.getElem?_append_left (by simpa using hi), List.getElem?_map] at h
    cases e : ds[i]? with
    | none => rw [e] at h; cases h
    | some d' =>
      rw [e] at h
      cases h
      obtain ⟨v, h1, h2⟩ := r.get e
      refine ⟨v, ?_, h2⟩
      unfold L2.start
      rw [List.getElem?_append_left (by rw [List.length_map, l]; exact hi), List.getElem?_map, h1]
      rfl
  · rw [List.getElem?_append_right (by simpa using hi), List.getElem?_replicate] at h
    split at h <;> cases h
mutual
theorem Rep.down {G : Glob} (nc : G.cels = false) {I I' : Wd} (s : Same I.I I'.I) : ∀ {d : P} {v : V}, Rep G I v d → Rep G I' v d
  | .non, _, h | .bl _, _, h | .int _, _, h | .str _, _, h | .ty _, _, h => by simpa only [Rep] using h
  | .tup ds, _, h => by
    simp only [Rep] at h ⊢
    obtain ⟨a, vs, e, q, r⟩ := h
    exact ⟨a, vs, e, Same.tup s q, Reps.down nc s r⟩
  | .lst ds, _, h => by
    simp only [Rep] at h ⊢
    obtain ⟨a, vs, e, q, r⟩ := h
    exact ⟨a, vs, e, s _ _ q, Reps.down nc s r⟩
  | .scr ds, _, h => by
    simp only [Rep] at h ⊢
    obtain ⟨a, vs, e, q, r⟩ := h
    exact ⟨a, vs, e, Same.seq s q, Reps.down nc s r⟩
  | .dK ks ds, _, h | .dT ks ds, _, h => by
    simp only [Rep] at h ⊢
    obtain ⟨a, vs, e, q, k, r⟩ := h
    exact ⟨a, vs, e, s _ _ q, k, Reps.down nc s r⟩
  | .fK ks ds, _, h => by
    simp only [Rep] at h ⊢
    obtain ⟨a, vs, o, e, q, k, r⟩ := h
    exact ⟨a, vs, o, e, s _ _ q, k, Reps.down nc s r⟩
  | .obj c ns ds, _, h => by
    simp only [Rep] at h ⊢
    obtain ⟨a, C, fs, e, g, q, k, r⟩ := h
    exact ⟨a, C, fs, e, g, q.mono s, k, Reps.down nc s r⟩
  | .cel n, _, h => by
    simp only [Rep] at h
    rw [nc] at h
    exact absurd h.1 (by decide)
theorem Reps.down {G : Glob} (nc : G.cels = false) {I I' : Wd} (s : Same I.I I'.I) : ∀ {ds : List P} {vs : List V}, Reps G I vs ds → Reps G I' vs ds
  | [], _, h => by simpa only [Reps] using h
  | d :: ds, _, h => by
    simp only [Reps] at h ⊢
    obtain ⟨v, r, e, h1, h2⟩ := h
    exact ⟨v, r, e, Rep.down nc s h1, Reps.down nc s h2⟩
end
theorem CellOk.down {G : Glob} (nc : G.cels = false) {I I' : Wd} {H : Hp} {a : Addr} (s : I.I = I'.I) {c : Cell} (h : CellOk G I H a c) : CellOk G I' H a c := by
  have s' : Same I.I I'.I := by rw [s]; exact Same.refl _
  cases c with
  | lst => obtain ⟨z, vs, e, r⟩ := h; exact ⟨s ▸ z, vs, e, r.down nc s'⟩
  | dK => obtain ⟨z, vs, e, q, r⟩ := h; exact ⟨s ▸ z, vs, e, q, r.down nc s'⟩
  | obj => obtain ⟨z, x, C, dx, fs, g, e, q, r⟩ := h; exact ⟨s ▸ z, x, C, dx, fs, g, e, q, r.down nc s'⟩
  | dead => exact h
theorem RepX.down {G : Glob} (nc : G.cels = false) {w w' : Wd} (s : w.I = w'.I) {cls : Value} {dd : Option Addr} {x : Exc} (h : RepX G w cls dd x) : RepX G w' cls dd x := by
  obtain ⟨h1, h2, h3⟩ := h
  refine ⟨h1, h2, ?_⟩
  rcases h3 with h3 | ⟨d, fs, e1, e2, e3, r⟩
  · exact .inl h3
  · exact .inr ⟨d, fs, e1, s ▸ e2, e3, r.down nc (by rw [s]; exact Same.refl _)⟩
theorem Wok.cut {G : Glob} (nc : G.cels = false) {w w' : Wd} {S S' : Store} {H H' : Hp} (k : Wok G w S H) (x : Ext w H w' H') (k' : Wok G w' S' H') : Wok G ⟨w'.I, w.as, w.ts⟩ (S'.take S.length) H' ∧ Ext w H ⟨w'.I, w.as, w.ts⟩ H' := by
  obtain ⟨t, ht⟩ := x.as
  have l := k.len
  have l' := k'.len
  rw [ht, List.length_append] at l'
  refine ⟨⟨k'.sub, ?_, k.nd, ⟨x.ts.symm.trans k'.tb.ts, fun p hp => ⟨(k'.tb.at_ p hp).1, (k'.tb.at_ p hp).2.1, fun z => (k'.tb.at_ p hp).2.2 (by rw [ht]; exact List.mem_append_left _ z)⟩, k'.tb.un.1, k.tb.un.2⟩, fun n c a h1 h2 => ?_⟩, ⟨x.I, ⟨[], by simp⟩, rfl, x.frame, fun b o h n => ⟨n, (x.fresh b o h n).2⟩, x.there⟩⟩
  · show w.as.length = _
    rw [List.length_take]
    omega
  · have h2 : w.as[n]? = some a := h2
    have hn : n < w.as.length := (List.getElem?_eq_some_iff.mp h2).1
    rw [List.getElem?_take_of_lt (by omega)] at h1
    exact CellOk.down nc (I := w') (I' := ⟨w'.I, w.as, w.ts⟩) rfl (k'.cells n c a h1 (by rw [ht, List.getElem?_append_left hn]; exact h2))
theorem cut_ret {G : Glob} (nc : G.cels = false) {w : Wd} {S : Store} {H : Hp} {Q : VK} (k : Wok G w S H) {d : D} {S' : Store} (q : Qv G w H Q d (cutD S.length d S')) : Qv G w H Q d S' := fun v w' H' x k' r => by
  obtain ⟨k2, x2⟩ := k.cut nc x k'
  cases d with
  | p d => exact q v _ H' x2 k2 (Rep.down nc (I := w') (I' := ⟨w'.I, w.as, w.ts⟩) (Same.refl _) r)
  | fn => exact q v _ H' x2 k2 r
  | cell m =>
    simp only [cutD] at q
    split at q
    · rename_i hm
      obtain ⟨a, e, z⟩ := r
      refine q v _ H' x2 k2 ⟨a, e, ?_⟩
      obtain ⟨t, ht⟩ := x.as
      rw [ht, List.getElem?_append_left (by rw [k.len]; exact hm)] at z
      exact z
    · exact q v w' H' x k' r
theorem cut_exc {G : Glob} (nc : G.cels = false) {w : Wd} {S : Store} {H : Hp} {E : XK} (k : Wok G w S H) {y : Exc} {S' : Store} (q : Qx G w H E y (S'.take S.length)) : Qx G w H E y S' := fun c d w' H' x k' r => by
  obtain ⟨k2, x2⟩ := k.cut nc x k'
  exact q c d _ H' x2 k2 (RepX.down nc (w := w') (w' := ⟨w'.I, w.as, w.ts⟩) rfl r)
structure CxG (G : Glob) (X : Cx) (W : WX) (n : Nat) : Prop where
  hK : X.K = G.K
  tk : Takes X W
  rm : Room n X.A
  gd : X.A.guards = some []
  calm : X.calm = true
theorem CxG.hu {G : Glob} {X : Cx} {W : WX} {n : Nat} (C : CxG G X W n) : X.A.units + 64 < cLine := C.rm.units
theorem CxG.h1 {G : Glob} {X : Cx} {W : WX} {n : Nat} (C : CxG G X W n) : X.A.units + 1 < cLine := hu_of C.rm
theorem CxG.blk {G : Glob} {X : Cx} {W : WX} {n : Nat} (C : CxG G X W n) (s : Shared) (H : Hp) (scope : Scope) (cenv : Env) (fp : List Addr) : CxG G (X.blk s H scope cenv fp) WF n := ⟨C.hK, takes0, C.rm, C.gd, C.calm⟩
section
variable {G : Glob} {P : Program} {w : World} {mg : Str → Option Value} {base : Heap} {x qual : Str} {params : Arguments} {body : List Stmt} {scope : Scope} {dvs : List V} {kws : List (Str × V)} {f : Addr} {fd : FuncData}
theorem fn_gC {N ps : List Str} {k : Nat} {sp : DSp} {ws : WS} (nc : G.cels = false) (F : FunD G.K x qual params body scope dvs kws f fd) (S : FnScope N ps scope) (mono : DMon sp) (len : ∀ ds S Q E, sp ds S Q E → ds.length = ps.length)
    (hbody : ∀ (cdv : Value) (A : Around) (outer : List Env) (s : Shared) (H : Hp) (E : XK), cdv = fd.code → CxG G (cxOf (L2.CX P w) P w G.K mg base N qual scope f cdv A outer s H E) (fun cls d _ H' => E cls d H') k →
      RSs G (cxOf (L2.CX P w) P w G.K mg base N qual scope f cdv A outer s H E) (fun cls d _ H' => E cls d H') body ws)
    (pur : ∀ ds S Q E, sp ds S Q E → ws (endsF S.length Q E) (startR N ds) S) : FnG G P w mg base (k + 1) f fd ps sp := by
  obtain ⟨oc, od, dV, kV, doc, pm, an, cdv, ct, osl, rfl, lk, hcd, _, _⟩ := F.ex
  refine ⟨mono, len, fun A outer s H args us vs Q E hr hg e0 hb r hsp => ?_⟩
  obtain ⟨wd, St, ds, ok, rd, hsp⟩ := hsp
  have hl : vs.length = ps.length := by rw [rd.length]; exact len _ _ _ _ hsp
  have stays : ∀ b o, base.get? b = some o → s.heap.get? b = some o := fun b o e => (e0.bs b o e).1
  have KX : G.K.In s.heap := e0.mod.kin.keeps stays
  have lim : s.heap.NoLimit := e0.mod.nolimit.keeps stays
  refine codeAny_call_function hr.depth (KX _ _ lk) rfl S.co S.gen rfl (PySem.W.codeRec_of KX hcd) (hb _ _ _ _ ?_)
  refine wpAny_newFunctionEnv_cells S.kind (fun y hy => ?_) fun env he s1 x => ?_
  · rcases S.par y.1 (List.of_mem_zip (show (y.1, y.2) ∈ ps.zip us from hy)).1 with q | q
    · exact .inl q
    · exact .inr ⟨q, PySem.W.cellsFrom_some _ _ _ (.inl q)⟩
  subst he
  refine ⟨lim.keeps x.toInCall.keep, codeAny_func ?_⟩
  have C : CxG G (cxOf (L2.CX P w) P w G.K mg base N qual scope f cdv A outer s H E) (fun cls d _ H' => E cls d H') k := ⟨rfl, takes_of rfl rfl rfl rfl, hr.deeper _, hg, rfl⟩
  have B := hbody cdv A outer s H E rfl C
  have I := inv_start (CX := L2.CX P w) (E := E) S hr.hd e0 hl r x
  have low : tMs G (fun cls d _ H' => E cls d H') ws { nx := fun _ H' => Q .non H', rt := Q } (L2.start N vs) H := by
    refine ⟨wd, St, startR N ds, ok, start_ok rd, B.mono (endsF St.length (Qv G wd H Q) (Qx G wd H E)) _ _ _ ⟨fun r S' q τ w' H' x k en => ?_, fun d S' q => cut_ret nc ok q, fun _ _ z => z.elim, fun _ _ z => z.elim, fun r y S' q τ c d w' H' x k en rx => ?_⟩ (pur _ _ _ _ hsp)⟩
    · obtain ⟨k2, x2⟩ := ok.cut nc x k
      exact q .non _ H' x2 k2 (rep_non.mpr rfl)
    · exact cut_exc nc ok q c d w' H' x k rx
  refine wpAny_mono (B.ps.run [] s1 (L2.start N vs) H _ I low) (fun fl s' hs => ?_) fun e s' hs => hs
  cases fl with
  | ret u =>
    obtain ⟨v, σ', H', J, rv, q⟩ := hs
    exact ⟨v, H', J.os, J.bare, J.base, J.hok, rv, q⟩
  | next =>
    obtain ⟨σ', H', J, q⟩ := hs
    exact ⟨V.non, H', J.os, J.bare, J.base, J.hok, rfl, q⟩
  | brk => exact hs.choose_spec.choose_spec.2.elim
  | cont => exact hs.choose_spec.choose_spec.2.elim
theorem fn_g {N ps : List Str} {k : Nat} {sp : DSp} {ws : WS} (nc : G.cels = false) (F : FunD G.K x qual params body scope dvs kws f fd) (S : FnScope N ps scope) (mono : DMon sp) (len : ∀ ds S Q E, sp ds S Q E → ds.length = ps.length)
    (hbody : ∀ (cdv : Value) (A : Around) (outer : List Env) (s : Shared) (H : Hp) (E : XK), CxG G (cxOf (L2.CX P w) P w G.K mg base N qual scope f cdv A outer s H E) (fun cls d _ H' => E cls d H') k →
      RSs G (cxOf (L2.CX P w) P w G.K mg base N qual scope f cdv A outer s H E) (fun cls d _ H' => E cls d H') body ws)
    (pur : ∀ ds S Q E, sp ds S Q E → ws (endsF S.length Q E) (startR N ds) S) : FnG G P w mg base (k + 1) f fd ps sp := fn_gC nc F S mono len (fun cdv A outer s H E _ => hbody cdv A outer s H E) pur
end
section
variable {G : Glob} {X : Cx} {W : WX} {n k : Nat} {f C : Addr} {fd : FuncData} {ps ks : List Str} {sp : DSp} {dvs : List V} {ds : List Value} {dds : List D} {x : Str} {p pos : Pos} {e : Expr} {es : List Expr} {ma mk : WA}
theorem run_g (C : CxG G X W n) (F : FnG G X.prog X.w X.mg X.base k f fd ps sp) (hk : k ≤ n) {pins : List (Addr × Obj)} {σ : L2.St} {H : Hp} {s : Shared} {Q : VK} {args : Args} {us : List Value} {vs : List V} (I : Inv X pins σ H s) (hb : BindsTo s fd args (ps.zip us)) (r : Vals vs us)
    (h : spV G sp vs H Q fun c d H' => W c d σ H') : wpAny (model X.prog X.w) X.A (call (.ref f) args.pos args.kw) (EP X pins σ Q) X.xe s := by
  have e0 := I.env0
  rw [C.hK] at e0
  refine wpAny_call (codeAny_mono (F.run X.A X.stack s H args us vs Q _ (C.rm.mono hk) C.gd e0 hb r h) fun z s' hq => ?_)
  cases z with
  | error e => exact passAt C.tk σ pins H s e s' I hq
  | ok fl =>
    cases fl with
    | ret u => exact I.after hq
    | next => exact False.elim hq
    | brk => exact False.elim hq
    | cont => exact False.elim hq
def wCall (sp : DSp) (dds : List D) (ma : WA) : WE := fun r S Q E => ma r S (fun vs S1 => sp (vs ++ dds) S1 Q E) E
theorem mon_call (hs : DMon sp) (hm : MonA ma) : Mon (wCall sp dds ma) := fun r S Q Q' E E' hq he h => hm _ _ _ _ _ _ (fun vs S1 q => hs _ _ _ _ _ _ hq he q) he h
theorem re_call (C : CxG G X W n) (F : FnG G X.prog X.w X.mg X.base k f fd ps sp) (hk : k ≤ n) (hg : Gl X x) (hm : X.mg x = some (.ref f)) (kp : PySem.W.keepIn X.K (.ref f) = true) (hb : Binds X.K fd ps ds) (hd : Vals dvs ds) (hdd : ∀ w, RepDs G w dvs dds) (ha : RA G X W (e :: es) ma)
    (hdb : (x == ("__debug__" : Str)) = false := by decide) (he : starEach (e :: es) X.env = (false, eval e X.env) :: starEach es X.env := by rfl) (hpl : (backTo pos (starEach es X.env)).any (·.1) = false := by rfl) :
    RE G X W (.Call (.Name x p) (e :: es) [] pos) (wCall sp dds ma) := by
  refine ⟨⟨fun pins s σ H Q I ⟨w, S, ρ, ok, en, q⟩ => ?_⟩, mon_call F.mono ha.mono⟩
  refine wpAny_Call_Name_kw (ld_glob I hg hm ?_ hdb)
  have h1 : tMa G W ma σ H fun vs H1 => spV G sp (vs ++ dvs) H1 Q fun c d H' => W c d σ H' := by
    refine ⟨w, S, ρ, ok, en, ha.mono ρ S _ _ _ _ (fun xs S1 q vs w1 H1 x1 k1 r => ?_) (fun _ _ z => z) q⟩
    exact ⟨w1, S1, xs ++ dds, k1, r.append (hdd w1), F.mono _ _ _ _ _ _ (fun _ _ z => z.ext x1) (fun _ _ z => z.ext x1) q⟩
  refine PySem.W.callWith_K (h₀ := X.base) I.ok.mod.kin kp (thn (ha.pe.run pos pins s σ H _ I h1) fun us s1 ⟨vs, H1, I1, r, q⟩ => ⟨I1.kIn, ?_⟩) he hpl
  have r2 : Vals (vs ++ dvs) (us ++ ds) := r.append hd
  have hl : (us ++ ds).length = ps.length := by
    obtain ⟨w2, S2, es2, _, rd, q2⟩ := id q
    rw [← r2.length, rd.length]; exact F.len _ _ _ _ q2
  exact run_g (args := ⟨us, []⟩) C F hk I1 (hb s1 us I1.kIn hl) r2 q
structure RK (G : Glob) (X : Cx) (W : WX) (kws : List Keyword) (m : WA) : Prop where
  pk : PK X kws (tMa G W m)
  mono : MonA m
theorem PK.imp {kws : List Keyword} {t u : TA} (h : PK X kws t) (i : ∀ σ H Q, u σ H Q → t σ H Q) : PK X kws u := ⟨fun pos pins s σ H Q I q => h.run pos pins s σ H Q I (i σ H Q q)⟩
theorem rk_nil : RK G X W [] wNil := ⟨PK.imp pk_nil fun σ H Q ⟨w, S, ρ, ok, en, q⟩ => q [] w H (Ext.refl w H) ok trivial, fun _ _ _ _ _ _ hq _ h => hq _ _ h⟩
theorem rk_cons {nm : Option Str} {kpos : Pos} {kws : List Keyword} {m : WE} {t : WA} (ha : RE G X W e m) (hr : RK G X W kws t) : RK G X W (⟨nm, e, kpos⟩ :: kws) (wCons m t) := by
  refine ⟨PK.imp (pk_cons ha.pe hr.pk) fun σ H Q ⟨w, S, ρ, ok, en, q⟩ => ?_, fun r S Q Q' E E' hq he h => ha.mono r S _ _ _ _ (fun d S1 q => hr.mono r S1 _ _ _ _ (fun ds S2 q2 => hq _ _ q2) he q) he h⟩
  refine tM.bind ha.mono ok en q (fun _ _ _ z => z) fun d1 S1 x w1 H1 x1 k1 r1 q1 => ?_
  exact ⟨w1, S1, ρ, k1, en.mono x1, hr.mono ρ S1 _ _ _ _ (fun ds S2 q2 ys w2 H2 x2 k2 r2 => q2 (x :: ys) w2 H2 (x1.trans x2) k2 ⟨r1.mono x2, r2⟩) (fun x S' q => q.ext x1) q1⟩
def wCallK (sp : DSp) (g : List D → List D) (mk : WA) : WE := fun r S Q E => mk r S (fun zs S1 => sp (g zs) S1 Q E) E
end
end RB
namespace RB
open PySem PySem.Spec PyProof.Rows L2
theorem reps_ints {G : Glob} {I : Wd} : ∀ ns : List Int, Reps G I (ns.map V.int) (ns.map RB.P.int)
  | [] => Reps.nil
  | n :: ns => Reps.cons (by simp only [Rep]) (reps_ints ns)
theorem law_g {G : Glob} {P : Program} {w : World} {mg mb : Str → Option Value} {k : Nat} {fa a : Addr} {cs : List (Addr × Addr)} {fd : FuncData} {x : Str} {sp : DSp} {s1 : Shared} {vs : List Value} {ns : List Int}
    (KX : G.K.In s1.heap) (hns : s1.heap.Ns mainGlobals mg) (hb : s1.heap.Ns builtinsNs mb) (hbb : ∀ x : Str, x ≠ "__name__" → mb x = bootBuiltins x) (hlim : s1.heap.NoLimit) (hg : s1.gens = #[])
    (eT : cs.map (·.2) = G.tabs.map (·.1)) (e00 : G.I0 = fun _ => none) (e01 : G.as0 = []) (hT : ∀ p ∈ cs, s1.heap.get? p.2 = some { cls := .none, data := .fields #[] }) (nT : ∀ p ∈ cs, G.K.lookup p.2 = none) (C : ∀ p ∈ cs, PySem.W.CodeHd s1.heap p.1 p.2)
    (hbm : ∃ (bm : Addr) (ob : Obj), mg "__builtins__" = some (.ref bm) ∧ bm ≠ builtinsNs ∧ s1.heap.get? bm = some ob ∧ ob.cls = .type "module" ∧ ob.dict = some builtinsNs ∧ ob.data = .plain)
    (ha : s1.heap.get? a = some { cls := .type "list", data := .seq vs.toArray }) (hi : IntsAre vs ns) (hl : ns.length ≤ sizeLine) (hr : Room k callerA)
    (F : ∀ base : Heap, G.K.In base → base.Ns mainGlobals mg → (∀ p ∈ cs, LamX.TabB base mg p.1 p.2) → FnG G P w mg base k fa fd [x] sp) (hbind : ∀ (s : Shared) (u : Value), BindsTo s fd ⟨[u], []⟩ [(x, u)])
    (hsp : sp [.p (.scr (ns.map RB.P.int))] [] (fun d _ => d = .p (.bl true)) fun _ _ => False) :
    codeAny (model P w) callerA (.call (.ref fa) ⟨[.ref a], []⟩) (fun r s' => r = .ok (.ret (.bool true)) ∧ OldK s1.heap s'.heap ∧ s'.os = s1.os ∧ AllBare s'.gens) s1 := by
  have rv := vals_ints hi
  have lenV := hi.length
  have isT : ∀ b : Addr, b ∈ cs.map (·.2) → s1.heap.get? b = some { cls := .none, data := .fields #[] } := fun b hb => by
    obtain ⟨p, hp, e⟩ := List.mem_map.mp hb
    rw [← e]
    exact hT p hp
  have memT : ∀ p ∈ cs, p.2 ∈ cs.map (·.2) := fun p hp => List.mem_map.mpr ⟨p, hp, rfl⟩
  have aT : a ∉ cs.map (·.2) := fun z => by
    have q := isT a z
    rw [ha] at q
    have z' : Data.seq vs.toArray _ = Data.fields #[] := congrArg Obj.data (Option.some.inj q)
    cases z'
  have core : ∀ I H : Hp, (∀ b, b ∈ cs.map (·.2) → I b = none ∧ H b = some (.tbl #[])) → (∀ b, b ∉ cs.map (·.2) → H b = I b) → (∀ b u, I b = some u → b = a ∧ ∃ o xs, u = .frz o (.lst xs)) → SqL G.K I a (ns.map V.int) → HOk P w H s1.heap → (H a ≠ none → G.K.lookup a = none) →
      codeAny (model P w) callerA (.call (.ref fa) ⟨[.ref a], []⟩) (fun r s' => r = .ok (.ret (.bool true)) ∧ OldK s1.heap s'.heap ∧ s'.os = s1.os ∧ AllBare s'.gens) s1 := by
    intro I H hI hH hO hS hok hK
    have sub : Same I H := fun b u e => by
      rw [hH b (fun z => by rw [(hI b z).1] at e; cases e)]
      exact e
    have still : ∀ {b : Addr} {o : Obj}, s1.heap.get? b = some o → (∀ its n, o.data ≠ .seq its n) → o.data ≠ .fields #[] → (hidT s1.heap H).get? b = some o := fun {b o} e nd nf => hidT_get e (by
      by_cases z : b ∈ cs.map (·.2)
      · rw [isT b z] at e
        cases e
        exact absurd rfl nf
      · rw [hH b z]
        cases q : I b with
        | none => rfl
        | some u =>
          obtain ⟨rfl, _⟩ := hO b u q
          rw [ha] at e
          cases e
          exact absurd rfl (nd _ _))
    have nsK : ∀ {b : Addr} {m : Str → Option Value}, s1.heap.Ns b m → (hidT s1.heap H).Ns b m := fun {b m} ⟨o, es, ep, e, d, r⟩ => ⟨o, es, ep, still e (fun its n z => by rw [d] at z; cases z) (fun z => by rw [d] at z; cases z), d, r⟩
    have kin : G.K.In (hidT s1.heap H) := fun b o e => hidT_get (KX b o e) (by
      by_cases z : b ∈ cs.map (·.2)
      · obtain ⟨p, hp, ep⟩ := List.mem_map.mp z
        rw [← ep, nT p hp] at e
        cases e
      · rw [hH b z]
        cases q : I b with
        | none => rfl
        | some u =>
          obtain ⟨rfl, _⟩ := hO b u q
          rw [hK (by rw [hH b z, q]; simp)] at e
          cases e)
    obtain ⟨mc, l1, l2⟩ := hlim
    have md : Mod G.K mg (hidT s1.heap H) := ⟨kin, nsK hns, ⟨mb, nsK hb, hbb⟩, ⟨mc, nsK l1, l2⟩⟩
    have TB : ∀ p ∈ cs, LamX.TabB (hidT s1.heap H) mg p.1 p.2 := fun p hp => by
      have hTp := hT p hp
      refine ⟨?_, ?_, fun z => ?_⟩
      · obtain ⟨o, us, file, tf, flags, tg, inF, text, tt, e1, r1, r2, r3, r4, r5, r6, r7, r8, hne⟩ := C p hp
        refine ⟨o, us, file, tf, flags, tg, inF, text, tt, still e1 (fun vs n z => ?_) (fun z => ?_), r1, r2, r3, r4, r5, r6, r7, r8, hne⟩
        · rw [r2] at z
          cases z
        · rw [r2] at z
          cases z
          simp at r3
      · obtain ⟨bm, ob, b1, b2, b3, b4, b5, b6⟩ := hbm
        have nG : bm ≠ mainGlobals := fun q => by
          obtain ⟨o, es, ep, e, hd, _⟩ := hns
          rw [q, e] at b3
          cases b3
          rw [hd] at b6
          cases b6
        have nP : bm ≠ p.2 := fun q => by
          rw [q, hTp] at b3
          cases b3
          cases b6
        refine ⟨bm, ob, b1, b2, nG, nP, still b3 (fun vs n z => ?_) (fun z => ?_), b4, b5, b6⟩
        · rw [b6] at z
          cases z
        · rw [b6] at z
          cases z
      · obtain ⟨o, es, ep, e, hd, _⟩ := hns
        rw [z, hTp] at e
        cases e
        cases hd
    have e0 : Env0 P w G.K mg (hidT s1.heap H) callerA [] s1 H := ⟨rfl, md, fun b o e => of_hidT e, Nat.le_of_eq (hidT_size _ _), trivial, fun b z => (nomatch (show b ∈ ([] : List Addr) from z)), hok, .of_eq hg⟩
    have ok : Wok G ⟨I, [], G.tabs.map (·.1)⟩ [] H := ⟨sub, rfl, List.nodup_nil, ⟨rfl, fun p hp => by
      have m : p.1 ∈ cs.map (·.2) := by rw [eT]; exact List.mem_map.mpr ⟨p, hp, rfl⟩
      refine ⟨⟨#[], (hI _ m).2, trivial, fun pos cv hc => ?_⟩, (hI _ m).1, by simp⟩
      have z : codeAmong pos [] = some cv := hc
      simp [codeAmong] at z, by rw [e00]; exact fun b o z => (nomatch z), ⟨[], by rw [e01]; rfl⟩⟩, fun n c a h _ => by simp at h⟩
    have spv : spV G sp [.ref a] H (fun v H' => v = .bl true) (fun _ _ _ => False) := by
      refine ⟨⟨I, [], G.tabs.map (·.1)⟩, [], [.p (.scr (ns.map RB.P.int))], ok, ⟨rep_scr.mpr ⟨a, _, rfl, hS, reps_ints ns⟩, trivial⟩, (F _ kin (nsK hns) TB).mono _ _ _ _ _ _ (fun d S e v w' H' x k r => ?_) (fun _ _ z => z.elim) hsp⟩
      subst e
      exact rep_bl.mp r
    refine codeAny_mono ((F _ kin (nsK hns) TB).run callerA [] s1 H ⟨[.ref a], []⟩ [.ref a] [.ref a] _ _ hr rfl e0 (hbind s1 (.ref a)) (.cons rfl .nil) spv) fun r s' h => ?_
    cases r with
    | error e =>
      obtain ⟨_, _, _, _, _, _, _, _, _, _, _, _, z⟩ := h
      exact z.elim
    | ok fl =>
      cases fl with
      | next => exact False.elim h
      | brk => exact False.elim h
      | cont => exact False.elim h
      | ret u =>
        obtain ⟨v, H', os, bare, un, hok', r', q⟩ := h
        have q' : v = .bl true := q
        subst q'
        have eu : u = Value.bool true := r'
        subst eu
        have key : ∀ b o, b ∉ cs.map (·.2) → s1.heap.get? b = some o → s'.heap.get? b = some o := fun b o nb e => by
          cases q : H b with
          | none => exact un.keep b o e q (fun z => nomatch (show b ∈ ([] : List Addr) from z)) (by simp)
          | some u =>
            obtain ⟨_, ob, xs, rfl⟩ := hO b u (by rw [← hH b nb]; exact q)
            have z2 := un.frzs b ob _ q
            obtain ⟨e1, _⟩ := hok b _ q
            obtain ⟨e2, _⟩ := hok' b _ z2
            rw [e] at e1; cases e1
            exact e2
        have grown : ∀ p ∈ cs, ∃ more : Array Value, s'.heap.get? p.2 = some { cls := .none, data := .fields more } := fun p hp => by
          obtain ⟨more, z⟩ := un.tbls p.2 #[] (hI p.2 (memT p hp)).2
          exact ⟨_, hok' p.2 _ z⟩
        refine ⟨rfl, ⟨fun b o e => ?_, fun b o e => ?_⟩, os, bare⟩
        · by_cases hb : b ∈ cs.map (·.2)
          · obtain ⟨p, hp, ep⟩ := List.mem_map.mp hb
            obtain ⟨more, hm⟩ := grown p hp
            rw [← ep] at e ⊢
            rw [hT p hp] at e
            cases e
            exact .inr (.inl ⟨((C p hp).tab (hT p hp)).isCodeTable, rfl, #[], more, rfl, by rw [Array.empty_append]; exact hm⟩)
          · exact .inl (key b o hb e)
        · by_cases hb : b ∈ cs.map (·.2)
          · obtain ⟨p, hp, ep⟩ := List.mem_map.mp hb
            obtain ⟨more, hm⟩ := grown p hp
            rw [← ep]
            exact ⟨_, hm⟩
          · exact ⟨o, key b o hb e⟩
  have tabOk : ∀ {H : Hp} {b : Addr}, b ∈ cs.map (·.2) → ObjOk P w H s1.heap b (.tbl #[]) := fun {H b} hb => isT b hb
  cases hk : G.K.lookup a with
  | some o =>
    have e := KX a o hk
    rw [ha] at e
    cases e
    refine core (fun _ => none) (fun b => if b ∈ cs.map (·.2) then some (.tbl #[]) else none) (fun b hb => ⟨rfl, if_pos hb⟩) (fun b hb => if_neg hb) (fun b u z => by cases z) (.inr ⟨_, vs.toArray, _, hk, rfl, rfl, rfl, by rw [List.size_toArray, lenV]; exact hl, by simpa using rv⟩) (fun b u z => ?_) fun z => absurd (if_neg aT) z
    by_cases hb : b ∈ cs.map (·.2)
    · have z' := (if_pos hb).symm.trans z
      cases z'
      exact tabOk hb
    · have z' := (if_neg hb).symm.trans z
      cases z'
  | none =>
    refine core (fun b => if b = a then some (.frz { cls := .type "list", data := .seq vs.toArray } (.lst (ns.map V.int))) else none) (fun b => if b ∈ cs.map (·.2) then some (.tbl #[]) else if b = a then some (.frz { cls := .type "list", data := .seq vs.toArray } (.lst (ns.map V.int))) else none)
      (fun b hb => ⟨if_neg (fun z => aT (by rw [← z]; exact hb)), if_pos hb⟩) (fun b hb => if_neg hb) (fun b u z => ?_) (.inl (.inr ⟨{ cls := .type "list", data := .seq vs.toArray }, if_pos rfl⟩)) (fun b u z => ?_) fun _ => hk
    · by_cases e : b = a
      · have z' := (if_pos e).symm.trans z
        cases z'
        exact ⟨e, _, _, rfl⟩
      · have z' := (if_neg e).symm.trans z
        cases z'
    · by_cases hb : b ∈ cs.map (·.2)
      · have z' := (if_pos hb).symm.trans z
        cases z'
        exact tabOk hb
      · have z1 := (if_neg hb).symm.trans z
        by_cases e : b = a
        · have z' := (if_pos e).symm.trans z1
          cases z'
          rw [e]
          exact ⟨ha, by rw [List.length_map]; exact hl, vs, _, rv, ha⟩
        · have z' := (if_neg e).symm.trans z1
          cases z'
theorem walk_g {l : PySem.W.OpenLaw} {n k : Nat} {q : Program} {loose : List Str} {XP : (Str → Option Value) → Heap → Prop} {YP : World → Heap → Prop} {d : DefRec} {x : Str}
    (hn : l.most = some n) (hn2 : n ≤ sizeLine) (hdf : d.params.defaults = []) (hr : Room k callerA)
    (F : ∀ (w : World) (mg : Str → Option Value) (fa : Addr) (h : Heap), YP w h → h.Ns mainGlobals mg → mg d.name = some (.ref fa) →
      ∃ (G : Glob) (fd : FuncData) (sp : DSp) (cs : List (Addr × Addr)), G.K.In h ∧ cs.map (·.2) = G.tabs.map (·.1) ∧ G.I0 = (fun _ => none) ∧ G.as0 = [] ∧ (∀ p ∈ cs, h.get? p.2 = some { cls := .none, data := .fields #[] }) ∧ (∀ p ∈ cs, G.K.lookup p.2 = none) ∧ (∀ p ∈ cs, PySem.W.CodeHd h p.1 p.2) ∧
        (∀ (s : Shared) (u : Value), BindsTo s fd ⟨[u], []⟩ [(x, u)]) ∧
        (∀ ns : List Int, ns.length ≤ n → sp [.p (.scr (ns.map RB.P.int))] [] (fun d _ => d = .p (.bl true)) fun _ _ => False) ∧
        ∀ base : Heap, G.K.In base → base.Ns mainGlobals mg → (∀ p ∈ cs, LamX.TabB base mg p.1 p.2) → FnG G l.prog w mg base k fa fd [x] sp) :
    PySem.W.WalkO q loose XP YP l.row.toRowW d [] (fun f vs => PySem.call f vs) := by
  refine Att.attach_call hn hdf fun w s0 s1 mg mb fa o pm cd doc a vs ns G Y ho hd hcd hmg hobj hints hlen hg => ?_
  obtain ⟨Gl, fd, sp, cs, KX, eT, e00, e01, hT, nT, C, hb, hsp, hF⟩ := F w mg fa _ Y G.T.g hmg
  exact law_g KX G.T.g G.T.b G.T.builtins G.T.nolimit hg eT e00 e01 hT nT C G.T.bmain hobj hints (Nat.le_trans hlen hn2) hr hF hb (hsp ns hlen)
end RB
namespace RB
open PySem PySem.Spec PyProof.Rows L2
section
variable {G : Glob} {X : Cx} {W : WX} {e a b c o i value : Expr} {pos pos' : Pos}
def dDPut (d dk dv : D) (S : Store) (K : Store → Prop) : Prop := match keyOf dk, d, dv with
  | some k, .cell n, .p v => match S[n]? with
    | some (.dK ks vs) => ks.length < sizeLine ∧ (if (ks.any fun k' => decide (k' = k)) = true then K (S.set n (.dK ks (kset ks vs k v))) else K (S.set n (.dK (ks ++ [k]) (vs ++ [v]))))
    | _ => False
  | _, _, _ => False
def wDPut (mo mi mv : WE) : WS := fun D r S => mv r S (fun dv S1 => mo r S1 (fun d S2 => mi r S2 (fun dk S3 => dDPut d dk dv S3 (fun S4 => D.nx r S4)) (D.xc r)) (D.xc r)) (D.xc r)
theorem rs_dput {mo mi mv : WE} (hu : X.A.units + 1 < cLine) (ho : RE G X W o mo) (hi : RE G X W i mi) (hv : RE G X W value mv) (hs : swapsWith value (some (.Subscript o i pos')) pos.line X.env = pure false := by rfl) :
    RS G X W (.Assign [.Subscript o i pos'] value pos) (wDPut mo mi mv) := by
  refine ⟨PS.imp (ps_dput hu ho.pe hi.pe hv.pe hs) fun D σ H ⟨w, S, ρ, ok, en, q⟩ => ?_, fun D D' r S l q => hv.mono _ _ _ _ _ _ (fun dv S1 q => ho.mono _ _ _ _ _ _ (fun d S2 q => hi.mono _ _ _ _ _ _ (fun dk S3 q => ?_) (l.xc r) q) (l.xc r) q) (l.xc r) q⟩
  · refine tM.low hv.mono ok en q fun dv S1 v w1 H1 x1 k1 r1 q1 => ?_
    refine tM.low ho.mono k1 (en.mono x1) (ho.mono _ _ _ _ _ _ (fun _ _ z => z) (fun y S' z => Sx.ext x1 z) q1) fun d S2 x w2 H2 x2 k2 r2 q2 => ?_
    have x12 := x1.trans x2
    refine tM.low hi.mono k2 (en.mono x12) (hi.mono _ _ _ _ _ _ (fun _ _ z => z) (fun y S' z => Sx.ext x12 z) q2) fun dk S3 y w3 H3 x3 k3 r3 q3 => ?_
    have x13 := x12.trans x3
    unfold dDPut at q3
    split at q3
    · rename_i k n p e1
      split at q3
      · rename_i ks vs hs
        obtain ⟨hl, q3⟩ := q3
        have ey := keyOf_ok r3 e1
        subst ey
        obtain ⟨a, rfl, hn⟩ := rep_cell.mp (r2.mono x3)
        obtain ⟨nI, kvs, z, h1, h2⟩ := k3.cells n _ a hs hn
        have rv : Rep G w3 v p := (r1.mono x2).mono x3
        have lk : kvs.length = ks.length := by rw [← h1, List.length_map]
        refine ⟨a, _, rfl, DPut.k (k := k) z (by rw [lk]; exact hl), ?_⟩
        split at q3
        · rename_i hk
          have hp : putK kvs k v = kvs.map fun kv => if kv.1 = k then (kv.1, v) else kv := by
            unfold putK
            rw [if_pos]
            rw [← h1, List.any_map] at hk
            exact hk
          obtain ⟨i1, i2⟩ := kmap_ok (k := k) rv h2
          obtain ⟨k4, x4⟩ := k3.write (o := .dK (putK kvs k v)) (c' := .dK ks (kset ks vs k p)) hs hn nI ⟨nI, _, upd_same, by rw [hp, i1, h1], by rw [hp, ← h1]; exact i2⟩
          exact q3 σ w3 _ (x13.trans x4) k4 ((en.mono x13).mono x4)
        · rename_i hk
          have hp : putK kvs k v = kvs ++ [(k, v)] := putK_new (by rw [h1]; exact fun z => hk (List.any_eq_true.mpr ⟨k, z, decide_eq_true rfl⟩))
          obtain ⟨k4, x4⟩ := k3.write (o := .dK (putK kvs k v)) (c' := .dK (ks ++ [k]) (vs ++ [p])) hs hn nI ⟨nI, _, upd_same, by rw [hp, List.map_append, h1]; rfl, by rw [hp, List.map_append]; exact h2.append (Reps.cons rv Reps.nil)⟩
          exact q3 σ w3 _ (x13.trans x4) k4 ((en.mono x13).mono x4)
      · exact q3.elim
    · exact q3.elim
  · unfold dDPut at q ⊢
    split at q
    · split at q
      · refine ⟨q.1, ?_⟩
        have q := q.2
        split at q
        · rename_i hk; rw [if_pos hk]; exact l.nx _ _ q
        · rename_i hk; rw [if_neg hk]; exact l.nx _ _ q
      · exact q.elim
    · exact q.elim
end
end RB
namespace RB
open PySem PySem.Spec PyProof.Rows L2
theorem bo_len : bootBuiltins (Str.ofString "len") = some (.builtin "len") := by decide +kernel
theorem bo_abs : bootBuiltins (Str.ofString "abs") = some (.builtin "abs") := by decide +kernel
theorem bo_min : bootBuiltins (Str.ofString "min") = some (.builtin "min") := by decide +kernel
theorem bo_all : bootBuiltins (Str.ofString "all") = some (.builtin "all") := by decide +kernel
theorem bo_any : bootBuiltins (Str.ofString "any") = some (.builtin "any") := by decide +kernel
theorem bo_sum : bootBuiltins (Str.ofString "sum") = some (.builtin "sum") := by decide +kernel
theorem bo_repr : bootBuiltins (Str.ofString "repr") = some (.builtin "repr") := by decide +kernel
theorem bo_isinstance : bootBuiltins (Str.ofString "isinstance") = some (.builtin "isinstance") := by decide +kernel
theorem bo_int : bootBuiltins (Str.ofString "int") = some (.type "int") := by decide +kernel
theorem bo_str : bootBuiltins (Str.ofString "str") = some (.type "str") := by decide +kernel
theorem bo_bool : bootBuiltins (Str.ofString "bool") = some (.type "bool") := by decide +kernel
theorem bo_list : bootBuiltins (Str.ofString "list") = some (.type "list") := by decide +kernel
theorem bo_tuple : bootBuiltins (Str.ofString "tuple") = some (.type "tuple") := by decide +kernel
abbrev dSub := dInt (fun _ _ => True) fun i j => .int (i - j)
abbrev dFdiv := dInt CDivW fun i j => .int (i / j)
abbrev dMod := dInt (fun _ j => 0 < j) fun i j => .int (i % j)
abbrev dPow := dInt CPow fun i j => .int (i ^ j.toNat)
abbrev dLt := dInt (fun _ _ => True) fun i j => .bl (decide (i < j))
abbrev dLe := dInt (fun _ _ => True) fun i j => .bl (decide (i ≤ j))
abbrev dGt := dInt (fun _ _ => True) fun i j => .bl (decide (j < i))
abbrev dGe := dInt (fun _ _ => True) fun i j => .bl (decide (j ≤ i))
abbrev dAbs := dI1 fun i => .int (if i < 0 then -i else i)
abbrev dMin2 := dInt (fun _ _ => True) fun i j => .int (if j < i then j else i)
abbrev dListOf := dQ1 fun ds S Q => Q (.p (.lst ds)) S
abbrev dTupleOf := dQ1 fun ds S Q => Q (.p (.tup ds)) S
abbrev dAll := dBls fun bs => bs.all id
abbrev dAny := dBls fun bs => bs.any id
abbrev wDictP := wDict (fun ks vs S Q => Q (.p (.dK ks vs)) S)
abbrev wDictC := wDict (fun ks vs S Q => Q (.cell S.length) (S ++ [.dK ks vs]))
section
variable {K : PySem.W.Frag} {x qual : Str} {params : Arguments} {body : List Stmt} {scope : Scope} {kws : List (Str × V)} {f : Addr} {fd : FuncData} {ps ks : List Str}
end
section
variable {G : Glob} {X : Cx} {W : WX} {n k : Nat} {f : Addr} {fd : FuncData} {ps : List Str} {sp : DSp} {x : Str} {p pos : Pos} {e : Expr} {es : List Expr} {ma : WA}
theorem re_callN (C : CxG G X W n) (F : FnG G X.prog X.w X.mg X.base k f fd ps sp) (hk : k ≤ n) (hg : Gl X x) (hm : X.mg x = some (.ref f)) (kp : PySem.W.keepIn X.K (.ref f) = true) (hb : Binds X.K fd ps []) (ha : RA G X W (e :: es) ma)
    (hdb : (x == ("__debug__" : Str)) = false := by decide) (he : starEach (e :: es) X.env = (false, eval e X.env) :: starEach es X.env := by rfl) (hpl : (backTo pos (starEach es X.env)).any (·.1) = false := by rfl) :
    RE G X W (.Call (.Name x p) (e :: es) [] pos) (wCall sp [] ma) := re_call C F hk hg hm kp hb .nil (fun _ => trivial) ha hdb he hpl
end
end RB
namespace RB
open PySem PySem.Spec PyProof.Rows L2
section
variable {r r' : Rho} {S : Store} {Q : DK} {E : EK} {nx bk ct : Rho → Store → Prop} {rt : DK} {xc : Rho → EK} {m m1 m2 m3 : WE} {t t1 t2 : WT} {ma : WA} {s1 s2 : WS} {i j : Nat} {d d1 d2 : RB.D} {QT : Bool → Store → Prop} {QA : List RB.D → Store → Prop}
variable {x y : Int}
end
end RB
namespace RB
open PySem PySem.Spec PyProof.Rows L2
end RB
namespace RB
open PySem PySem.Spec PyProof.Rows L2
def keyD : Key → PyData
  | .inl i => .int i
  | .inr x => .str x
mutual
def px : P → Option PyData
  | .non => some .none
  | .bl b => some (.bool b)
  | .int i => some (.int i)
  | .str x => some (.str x)
  | .lst xs => (pxs xs).map .list
  | .tup xs => (pxs xs).map .tuple
  | .dK ks xs => (pxs xs).map fun es => .dict ((ks.map keyD).zip es)
  | .fK ks xs => (pxs xs).map fun es => .dict ((ks.map keyD).zip es)
  | .scr _ | .ty _ | .dT _ _ | .obj _ _ _ | .cel _ => none
def pxs : List P → Option (List PyData)
  | [] => some []
  | d :: ds => match px d, pxs ds with
    | some x, some xs => some (x :: xs)
    | _, _ => none
end
theorem pxs_len : ∀ {ds : List P} {es : List PyData}, pxs ds = some es → es.length = ds.length
  | [], _, h => by cases h; rfl
  | d :: ds, es, h => by
    rw [pxs] at h
    split at h
    · rename_i x xs h1 h2
      cases h
      simp [pxs_len h2]
    · cases h
section
variable {G : Glob} {X : Cx} {pins : List (Addr × Obj)} {σ : L2.St} {H : Hp} {s : Shared} {wd : Wd}
abbrev KSys (K : PySem.W.Frag) : Prop := ∃ o, K.lookup sysModules = some o
theorem sys_none (J : Inv X pins σ H s) (hy : KSys X.K) : H sysModules = none := by
  obtain ⟨o, e⟩ := hy
  exact (J.bs _ _ (J.ok.mod.kin _ _ e)).2
theorem keys_read {h : Heap} : ∀ {es : List DictEntry} {kvs : List (Key × Value)} {ds : List PyData} {bs : List Addr}, Pairs (mixKind X.prog X.w) es kvs → ReadsAll h (kvs.map (·.2)) ds bs → ReadsAll h (es.map (·.key)) (kvs.map fun p => keyD p.1) [] ∧ es.map (·.val) = kvs.map (·.2)
  | _, _, _, _, .nil, _ => ⟨.nil, rfl⟩
  | _, _, _, _, .cons (e := e) (kv := kv) hk hv t, r => by
    cases r with
    | cons r1 r2 =>
      obtain ⟨q1, q2⟩ := keys_read t r2
      have hk' : keyIs kv.1 e.key = true := hk
      refine ⟨?_, by simp [hv, q2]⟩
      have kr : Reads h e.key (keyD kv.1) [] := by
        rcases keyIs_shape hk' with ⟨i, t, e1, e2⟩ | ⟨x, t, e1, e2⟩
        · rw [e1, e2]
          exact .int i t
        · rw [e1, e2]
          exact .str x t
      exact .cons kr q1
mutual
theorem px_reads (hK : X.K = G.K) (hy : KSys X.K) (sub : Same wd.I H) (J : Inv X pins σ H s) : ∀ {p : P} {v : V} {u : Value} {e : PyData}, Rep G wd v p → px p = some e → RelV v u → ∃ as, Reads s.heap u e as ∧ sysModules ∉ as
  | .non, _, _, _, r, q, t => by
    simp only [Rep] at r
    subst r
    cases q
    cases t
    exact ⟨[], .none, by simp⟩
  | .bl b, _, _, _, r, q, t => by
    simp only [Rep] at r
    subst r
    cases q
    cases t
    exact ⟨[], .bool b, by simp⟩
  | .int i, _, _, _, r, q, t => by
    simp only [Rep] at r
    subst r
    cases q
    obtain ⟨k, rfl⟩ := t
    exact ⟨[], .int i k, by simp⟩
  | .str x, _, _, _, r, q, t => by
    simp only [Rep] at r
    subst r
    cases q
    obtain ⟨k, rfl⟩ := t
    exact ⟨[], .str x k, by simp⟩
  | .lst ds, _, _, _, r, q, t => by
    simp only [Rep] at r
    obtain ⟨a, vs, rfl, ha, rs⟩ := r
    rw [px] at q
    obtain ⟨es, q1, rfl⟩ := Option.map_eq_some_iff.mp q
    cases t
    have hH := sub _ _ ha
    obtain ⟨z, its, n, rv, ho⟩ := J.hok _ _ hH
    obtain ⟨as, hr, hn⟩ := pxs_reads hK hy sub J rs q1 rv
    refine ⟨_, .list ho rfl rfl hr, ?_⟩
    rw [List.mem_cons, not_or]
    refine ⟨fun w => ?_, hn⟩
    rw [← w, sys_none J hy] at hH
    cases hH
  | .tup ds, _, _, _, r, q, t => by
    simp only [Rep] at r
    obtain ⟨a, vs, rfl, ha, rs⟩ := r
    rw [px] at q
    obtain ⟨es, q1, rfl⟩ := Option.map_eq_some_iff.mp q
    cases t
    have hs : SqT X.K H a vs := by
      rw [hK]
      exact Same.tup sub ha
    obtain ⟨its, rv, ⟨o, ho, hc, n, hd⟩, _⟩ := J.tuple hs
    obtain ⟨as, hr, hn⟩ := pxs_reads hK hy sub J rs q1 rv
    exact ⟨_, .tuple ho hc hd hr, hn⟩
  | .dK ks ds, _, _, _, r, q, t => by
    simp only [Rep] at r
    obtain ⟨a, kvs, rfl, ha, hks, rs⟩ := r
    rw [px] at q
    obtain ⟨es, q1, rfl⟩ := Option.map_eq_some_iff.mp q
    cases t
    have hH := sub _ _ ha
    obtain ⟨z, hsm, vs, kv, o, en, ep, ho, hx, hd, _, hp, nd⟩ := J.hok _ _ hH
    have kv2 : vs.map (·.1) = ks ∧ Vals (kvs.map (·.2)) (vs.map (·.2)) := by
      rw [← hks]
      clear hp hH ha hks rs z nd
      induction kv with
      | nil => exact ⟨rfl, .nil⟩
      | cons h1 _ ih => exact ⟨by simp [ih.1, h1.1], .cons h1.2 ih.2⟩
    obtain ⟨bs, hr, hn⟩ := pxs_reads hK hy sub J rs q1 kv2.2
    obtain ⟨k1, k2⟩ := keys_read (X := X) hp hr
    have l1 : (ks.map keyD).length = es.length := by
      rw [pxs_len q1, ← rs.length, ← hks]
      simp
    have e1 : ((ks.map keyD).zip es).map (·.1) = vs.map fun p => keyD p.1 := by
      rw [List.map_fst_zip (by omega), ← kv2.1, List.map_map]
      rfl
    have e2 : ((ks.map keyD).zip es).map (·.2) = es := List.map_snd_zip (by omega)
    refine ⟨_, .dict ho hx.1 hd (by rw [e1]; exact k1) (by rw [e2, k2]; exact hr), ?_⟩
    rw [List.mem_append, List.mem_singleton, not_or]
    refine ⟨fun w => ?_, hn⟩
    rw [← w] at hsm
    simp at hsm
  | .fK ks ds, _, _, _, r, q, t => by
    simp only [Rep] at r
    obtain ⟨a, kvs, oo, rfl, ha, hks, rs⟩ := r
    rw [px] at q
    obtain ⟨es, q1, rfl⟩ := Option.map_eq_some_iff.mp q
    cases t
    have hH := sub _ _ ha
    obtain ⟨_, z, hsm, vs, kv, o, en, ep, ho, hx, hd, _, hp, nd⟩ := J.hok _ _ hH
    have kv2 : vs.map (·.1) = ks ∧ Vals (kvs.map (·.2)) (vs.map (·.2)) := by
      rw [← hks]
      clear hp hH ha hks rs z nd
      induction kv with
      | nil => exact ⟨rfl, .nil⟩
      | cons h1 _ ih => exact ⟨by simp [ih.1, h1.1], .cons h1.2 ih.2⟩
    obtain ⟨bs, hr, hn⟩ := pxs_reads hK hy sub J rs q1 kv2.2
    obtain ⟨k1, k2⟩ := keys_read (X := X) hp hr
    have l1 : (ks.map keyD).length = es.length := by
      rw [pxs_len q1, ← rs.length, ← hks]
      simp
    have e1 : ((ks.map keyD).zip es).map (·.1) = vs.map fun p => keyD p.1 := by
      rw [List.map_fst_zip (by omega), ← kv2.1, List.map_map]
      rfl
    have e2 : ((ks.map keyD).zip es).map (·.2) = es := List.map_snd_zip (by omega)
    refine ⟨_, .dict ho hx.1 hd (by rw [e1]; exact k1) (by rw [e2, k2]; exact hr), ?_⟩
    rw [List.mem_append, List.mem_singleton, not_or]
    refine ⟨fun w => ?_, hn⟩
    rw [← w] at hsm
    simp at hsm
  | .scr _, _, _, _, _, q, _ => by cases q
  | .ty _, _, _, _, _, q, _ => by cases q
  | .cel _, _, _, _, _, q, _ => by cases q
  | .dT _ _, _, _, _, _, q, _ => by cases q
  | .obj _ _ _, _, _, _, _, q, _ => by cases q
theorem pxs_reads (hK : X.K = G.K) (hy : KSys X.K) (sub : Same wd.I H) (J : Inv X pins σ H s) : ∀ {ps : List P} {vs : List V} {us : List Value} {es : List PyData}, Reps G wd vs ps → pxs ps = some es → Vals vs us → ∃ as, ReadsAll s.heap us es as ∧ sysModules ∉ as
  | [], _, _, _, r, q, t => by
    simp only [Reps] at r
    subst r
    cases q
    cases t
    exact ⟨[], .nil, by simp⟩
  | p :: ps, _, _, _, r, q, t => by
    simp only [Reps] at r
    obtain ⟨v, vr, rfl, r1, r2⟩ := r
    rw [pxs] at q
    split at q
    · rename_i x xs h1 h2
      cases q
      cases t with
      | cons t1 t2 =>
        obtain ⟨as, a1, a2⟩ := px_reads hK hy sub J r1 h1 t1
        obtain ⟨bs, b1, b2⟩ := pxs_reads hK hy sub J r2 h2 t2
        exact ⟨as ++ bs, .cons a1 b1, by simp [a2, b2]⟩
    · cases q
end
def pxD (S : Store) : D → Option PyData
  | .p d => px d
  | .cell n => match S[n]? with
    | some (.lst ds) => (pxs ds).map .list
    | some (.dK ks ds) => (pxs ds).map fun es => .dict ((ks.map keyD).zip es)
    | _ => none
  | .fn => none
theorem pxD_reads (hK : X.K = G.K) (hy : KSys X.K) {S : Store} (k : Wok G wd S H) (J : Inv X pins σ H s) {d : D} {v : V} {u : Value} {e : PyData} (r : RepD G wd v d) (q : pxD S d = some e) (t : RelV v u) : ∃ as, Reads s.heap u e as ∧ sysModules ∉ as := by
  cases d with
  | p d => exact px_reads hK hy k.sub J r q t
  | fn => simp [pxD] at q
  | cell n =>
    obtain ⟨a, rfl, ha⟩ := r
    obtain ⟨c, hc, ok⟩ := k.idx ha
    simp only [pxD, hc] at q
    cases c with
    | lst ds =>
      obtain ⟨_, vs, hH, rs⟩ := ok
      have r' : Rep G ⟨H, wd.as, wd.ts⟩ (.ref a) (.lst ds) := by
        simp only [Rep]
        exact ⟨a, vs, rfl, hH, rs.mono k.sub⟩
      exact px_reads (wd := ⟨H, wd.as, wd.ts⟩) hK hy (Same.refl _) J r' q t
    | dK ks ds =>
      obtain ⟨_, kvs, hH, hks, rs⟩ := ok
      have r' : Rep G ⟨H, wd.as, wd.ts⟩ (.ref a) (.dK ks ds) := by
        simp only [Rep]
        exact ⟨a, kvs, rfl, hH, hks, rs.mono k.sub⟩
      exact px_reads (wd := ⟨H, wd.as, wd.ts⟩) hK hy (Same.refl _) J r' q t
    | obj _ _ _ => cases q
    | dead => cases q
def dRepr (d : D) (S : Store) (Q : DK) : Prop := match pxD S d with
  | some e => e.showable = true ∧ e.depth ≤ 60 ∧ e.shown.length ≤ sizeLine ∧ Q (.p (.str e.shown)) S
  | none => False
theorem cl_repr (hK : X.K = G.K) (hy : KSys X.K) (hg : X.A.guards = some []) (hu : X.A.units + 64 < cLine) : CallL G X (.builtin "repr") (b1 dRepr) := by
  refine ⟨?_, fun ds S Q Q' hq q => ?_⟩
  · intro pins s σ H xs us Q J rx h
    obtain ⟨w, S, ds, k, rs, q⟩ := h
    unfold b1 at q
    split at q
    · rename_i d
      obtain ⟨x, rfl, r⟩ := reps1 rs
      obtain ⟨u, rfl, ru⟩ := vals1 rx
      unfold dRepr at q
      split at q
      · rename_i e he
        obtain ⟨h1, h2, h3, h4⟩ := q
        obtain ⟨as, rd, ns⟩ := pxD_reads hK hy k J r he ru
        have fin : ∀ h' tk k2, (∀ b o, s.heap.get? b = some o → h'.get? b = some o) → EP X pins σ Q (.str e.shown tk) { s with heap := h', toks := k2 } := fun h' tk k2 kp =>
          ⟨.str e.shown, H, J.kept kp, ⟨tk, rfl⟩, h4.here k (rep_str.mpr rfl)⟩
        cases rd with
        | none => exact PySem.P.repr_of_none ⟨.str _, H, J.tok _, ⟨_, rfl⟩, h4.here k (rep_str.mpr rfl)⟩
        | bool b => exact PySem.P.repr_of_bool ⟨.str _, H, J.tok _, ⟨_, rfl⟩, h4.here k (rep_str.mpr rfl)⟩
        | int i t => exact PySem.P.repr_of_int (of_decide_eq_true h1) ⟨.str _, H, J.tok _, ⟨_, rfl⟩, h4.here k (rep_str.mpr rfl)⟩
        | str x t => exact PySem.P.repr_of_str ⟨.str _, H, J.tok _, ⟨_, rfl⟩, h4.here k (rep_str.mpr rfl)⟩ h3
        | list a1 a2 a3 a4 => exact repr_of_reads' (.list a1 a2 a3 a4) h1 (fun _ => ns) hg (by omega) (fun _ _ z => z) (fun h' tk k2 kp => fin h' tk k2 kp) h3
        | tuple a1 a2 a3 a4 => exact repr_of_reads' (.tuple a1 a2 a3 a4) h1 (fun _ => ns) hg (by omega) (fun _ _ z => z) (fun h' tk k2 kp => fin h' tk k2 kp) h3
        | dict a1 a2 a3 a4 a5 => exact repr_of_reads' (.dict a1 a2 a3 a4 a5) h1 (fun _ => ns) hg (by omega) (fun _ _ z => z) (fun h' tk k2 kp => fin h' tk k2 kp) h3
      · exact q.elim
    · exact q.elim
  · unfold b1 at q ⊢
    split at q
    · unfold dRepr at q ⊢
      split at q
      · exact ⟨q.1, q.2.1, q.2.2.1, hq _ _ q.2.2.2⟩
      · exact q.elim
    · exact q.elim
end
end RB
namespace RB
open PySem PySem.Spec PyProof.Rows L2
def spI (K : PySem.W.Frag) (fs : List Str) : Sp := fun vs H Q _ => ∃ (a C : Addr) (ys : List V), vs = .ref a :: ys ∧ ys.length = fs.length ∧ OexC K C ∧ (∀ f ∈ fs, PySem.W.findIn K (.ref C) f = some none) ∧ H a = some (exo a C none) ∧
  ∀ dx, H dx = none → dx ≠ a → Q .non (L2.upd (L2.upd H dx (exd dx (fs.zip ys).reverse)) a (exo a C (some dx)))
theorem spI_len {K : PySem.W.Frag} {fs ps : List Str} (h : ps.length = fs.length + 1) : ∀ vs H Q E, spI K fs vs H Q E → vs.length = ps.length := fun vs H Q E ⟨a, C, ys, e, l, _⟩ => by
  rw [e, h, ← l]
  rfl
section
variable {P : Program} {w : World} {K : PySem.W.Frag} {mg : Str → Option Value} {base : Heap} {x qual : Str} {params : Arguments} {scope : Scope} {dvs : List V} {kws : List (Str × V)} {f : Addr} {fd : FuncData}
theorem ok_init1 {CX : CXT} {N ps : List Str} {p1 p2 p3 p4 : Pos} {me a1 f1 : Str} (F : FunD K x qual params [.Assign [.Attribute (.Name me p1) f1 p2] (.Name a1 p3) p4] scope dvs kws f fd) (S : FnScope N ps scope) (hp : ps.length = 2) (hN : N = [me, a1])
    (v0 : Vis scope me) (v1 : Vis scope a1) (d0 : (me == ("__debug__" : Str)) = false := by decide) (d1 : (a1 == ("__debug__" : Str)) = false := by decide) (c0 : (me == ("__classdict__" : Str)) = false := by decide) (c1 : (a1 == ("__classdict__" : Str)) = false := by decide) :
    FnOk P w K mg base CX 1 f fd ps (spI K [f1]) := by
  refine FunD.ok (k := 0) F S (spI_len hp) fun cdv A outer s H vs Q E hr hsp => ?_
  subst hN
  refine ⟨_, pss_one (ps_ost (pe_var (i := 0) rfl v0 d0 c0) (pe_var (i := 1) rfl v1 d1 c1)), ?_⟩
  obtain ⟨a, C, ys, rfl, l, T, hno, ha, q⟩ := hsp
  match ys, l with
  | [y], _ =>
    refine ⟨y, rfl, .ref a, rfl, a, C, rfl, T, hno f1 (by simp), .inl ⟨ha, fun dx n ne => ?_⟩⟩
    exact q dx n ne
end
structure ExK (K : PySem.W.Frag) (C fI : Addr) (fs : List Str) : Prop where
  T : OexC K C
  i : PySem.W.findIn K (.ref C) "__init__" = some (some (.ref fI))
  t : PySem.W.typeIn K (.ref fI) = some (.type "function")
  no : ∀ f ∈ fs, PySem.W.findIn K (.ref C) f = some none
def wRaise (c : String) (fs : List Str) (ma : WA) : WS := fun D r S => ma r S (fun ds S1 => match allP ds with
  | some ps => ps.length = fs.length ∧ fs.length ≤ 900 ∧ D.xc r ⟨c, fs.reverse, ps.reverse⟩ S1
  | none => False) (D.xc r)
theorem Reps.reverse {G : Glob} {I : Wd} : ∀ {vs : List V} {ps : List P}, Reps G I vs ps → Reps G I vs.reverse ps.reverse
  | _, [], h => by
    simp only [Reps] at h
    subst h
    exact Reps.nil
  | _, p :: ps, h => by
    simp only [Reps] at h
    obtain ⟨v, r, rfl, h1, h2⟩ := h
    rw [List.reverse_cons, List.reverse_cons]
    exact (Reps.reverse h2).append (Reps.cons h1 Reps.nil)
section
variable {G : Glob} {X : Cx} {W : WX} {n k : Nat} {f Cc : Addr} {fd : FuncData} {ps fs : List Str} {x : Str} {p pos pos' : Pos} {e : Expr} {es : List Expr} {ma : WA} {c : String}
theorem rs_raise (C : CxG G X W n) (T : ExK X.K Cc f fs) (F : FnOk X.prog X.w X.K X.mg X.base (L2.CX X.prog X.w) k f fd ps (spI X.K fs)) (hk : k + 1 ≤ n) (hb : Binds X.K fd ps []) (hg : Gl X x) (hm : X.mg x = some (.ref Cc)) (hc : G.cls c = some Cc) (hi : G.isE c = true) (ha : RA G X W (e :: es) ma)
    (hdb : (x == ("__debug__" : Str)) = false := by decide) (he : starEach (e :: es) X.env = (false, eval e X.env) :: starEach es X.env := by rfl) (hpl : (backTo pos (starEach es X.env)).any (·.1) = false := by rfl) :
    RS G X W (.Raise (some (.Call (.Name x p) (e :: es) [] pos)) none pos') (wRaise c fs ma) := by
  have M := pmk_oex (pos := pos) (p := p) T.T T.i T.t F (C.rm.mono hk) hb (dvs := []) .nil (passes_call C.tk fun _ _ _ _ z => z.elim) hg hm ha.pe hdb he hpl
  refine ⟨PS.imp (ps_raise C.calm C.tk M) fun D σ H ⟨w, S, r, ok, en, q⟩ => ?_, fun D D' r S l h => ?_⟩
  · refine ⟨w, S, r, ok, en, ha.mono r S _ _ _ _ (fun ds S1 q vs w1 H1 x1 k1 rs => ?_) (fun y S' q => q.at_ en) q⟩
    split at q
    · rename_i ps' hp
      obtain ⟨l1, l2, q⟩ := q
      have rp := rs.pure hp
      have lv : vs.length = fs.length := by rw [rp.length, l1]
      refine ⟨by omega, fun a na => ?_⟩
      refine ⟨a, Cc, vs, by rw [List.append_nil], lv, T.T, T.no, upd_same, fun dx nd ne => ?_⟩
      have nd1 : H1 dx = none := by
        rw [upd_ne ne] at nd
        exact nd
      refine ⟨rfl, dx, (fs.zip vs).reverse, upd_same, by rw [upd_ne ne, upd_same], nd1, ?_⟩
      have eH : L2.upd (L2.del (L2.upd (L2.upd (L2.upd H1 a (exo a Cc none)) dx (exd dx (fs.zip vs).reverse)) a (exo a Cc (some dx))) a) dx (.xd (fs.zip vs).reverse) = L2.upd H1 dx (.xd (fs.zip vs).reverse) := by
        funext b
        by_cases h1 : b = dx
        · subst h1
          rw [upd_same, upd_same]
        · rw [upd_ne h1, upd_ne h1]
          by_cases h2 : b = a
          · subst h2
            rw [del_same, na]
          · rw [del_ne h2, upd_ne h2, upd_ne h1, upd_ne h2]
      rw [eH]
      obtain ⟨k2, x2⟩ := k1.alloc (o := .xd (fs.zip vs).reverse) nd1
      refine q σ (.ref Cc) (some dx) _ _ (x1.trans x2) k2 ((en.mono x1).mono x2) ⟨by rw [hc]; rfl, hi, .inr ⟨dx, _, rfl, upd_same, ?_, ?_⟩⟩
      · rw [List.map_reverse, List.map_fst_zip (by omega)]
      · rw [List.map_reverse, List.map_snd_zip (by omega)]
        exact (rp.reverse).mono x2.I x2.as
    · exact q.elim
  · refine ha.mono _ _ _ _ _ _ (fun ds S1 q => ?_) (fun y S' q => l.xc _ _ _ q) h
    split at q
    · rename_i ps' hp
      exact ⟨q.1, q.2.1, l.xc _ _ _ q.2.2⟩
    · exact q.elim
end
end RB
namespace RB
open PySem PySem.Spec PyProof.Rows L2
theorem xob_ok {Pr : Program} {w : World} {H : Hp} {h : Heap} {a C : Addr} {dd : Option Addr} {oe : Obj} {vs : Array Value} (e : h.get? a = some oe) (c : oe.cls = .ref C) (d : oe.dict = dd) (v : oe.data = .fields vs) : ObjOk Pr w H h a (xob a C dd) := by
  refine ⟨⟨oe, vs, e, c, d, v⟩, ⟨oe, e⟩, fun h1 h2 ⟨o1, v1, e1, c1, d1, w1⟩ k => ⟨o1, v1, k _ e1, c1, d1, w1⟩⟩
section
variable {X : Cx} {pins : List (Addr × Obj)} {σ : L2.St} {H : Hp} {s : Shared}
abbrev hotX (X : Cx) (a : Addr) : Cx := { X with A := X.A.mark (some (.ref a)), calm := false, xe := fun _ _ => False }
theorem hot_ok (k : X.Ok) (a : Addr) : (hotX X a).Ok := { k with hd := fun z => nomatch z }
theorem hot_in (J : Inv X pins σ H s) (a : Addr) : Inv (hotX X a) pins σ H s := { J with ok := hot_ok J.ok a }
theorem hot_out {a : Addr} (k : X.Ok) (J : Inv (hotX X a) pins σ H s) : Inv X pins σ H s := { J with ok := k }
theorem hold_in (J : Inv X pins σ H s) {a C : Addr} {dd : Option Addr} {oe : Obj} {vs : Array Value} (e : s.heap.get? a = some oe) (c : oe.cls = .ref C) (d : oe.dict = dd) (v : oe.data = .fields vs) (na : H a = none) (nl : a ≠ X.env.locals)
    (n0 : X.s_0.heap.get? a = none) (np : ∀ p ∈ X.pn ++ pins, p.1 ≠ a) : Inv X pins σ (L2.upd H a (xob a C dd)) s := by
  have ne : ∀ {b : Addr} {o : HO}, H b = some o → b ≠ a := fun {b o} hb z => by
    rw [z, na] at hb
    cases hb
  have up : ∀ {b : Addr} {o : HO}, H b = some o → L2.upd H a (xob a C dd) b = some o := fun {b o} hb => by
    rw [upd_ne (ne hb)]
    exact hb
  have B := J.base
  refine { J with base := ⟨B.keep, B.slot, fun b o h1 h2 h3 => ?_, B.there, fun b xs q => up (B.tups b xs q), fun b o u q => up (B.frzs b o u q), fun b ps q => ?_⟩, free := ?_, freeC := fun x y q => ?_, pin := fun p hp => ?_, hok := fun b o q => ?_ }
  · have nb : b ≠ a := fun z => by
      rw [z, n0] at h1
      cases h1
    rw [upd_ne nb]
    exact B.free b o h1 h2 h3
  · obtain ⟨more, z⟩ := B.tbls b ps q
    exact ⟨more, up z⟩
  · rw [upd_ne (Ne.symm nl)]
    exact J.free
  · have nb : y ≠ a := fun z => by
      obtain ⟨u, o1, q1, q2⟩ := J.cell x y q
      rw [z, e] at q1
      cases q1
      rw [v] at q2
      cases q2
    rw [upd_ne nb]
    exact J.freeC x y q
  · obtain ⟨q1, q2, q3⟩ := J.pin p hp
    exact ⟨q1, by rw [upd_ne (np p hp)]; exact q2, q3⟩
  · by_cases z : b = a
    · subst z
      rw [upd_same] at q
      cases q
      exact xob_ok e c d v
    · rw [upd_ne z] at q
      exact (J.hok b o q).stay (fun _ _ _ k => k) (fun _ k => up k) fun _ _ k => up k
end
inductive HdX (X : Cx) : List ExceptHandler → List (List Value × Nat × TS) → Prop
  | nil : HdX X [] []
  | cons {x n : Str} {c : Value} {i : Nat} {ts : TS} {b0 : Stmt} {su : List Stmt} {np hp : Pos} {hds : List ExceptHandler} {l : List (List Value × Nat × TS)} (hi : X.N[i]? = some n) (hl : X.env.kindOf n = some .local) (hc : Names X x c)
      (hsu : ∀ a, PSs (hotX X a) (b0 :: su) ts) (r : HdX X hds l) : HdX X (.ExceptHandler (some (.Name x np)) (some n) (b0 :: su) hp :: hds) (([c], i, ts) :: l)
  | consT {x1 x2 x3 x4 n : Str} {c1 c2 c3 c4 : Value} {i k : Nat} {ts : TS} {b0 : Stmt} {su : List Stmt} {p1 p2 p3 p4 np hp : Pos} {hds : List ExceptHandler} {l : List (List Value × Nat × TS)} (hi : X.N[i]? = some n) (hl : X.env.kindOf n = some .local) (h1 : Names X x1 c1) (h2 : Names X x2 c2) (h3 : Names X x3 c3) (h4 : Names X x4 c4)
      (hsu : ∀ a, PSs (hotX X a) (b0 :: su) ts) (r : HdX X hds l) : HdX X (.ExceptHandler (some (.Tuple [.Name x1 p1, .Name x2 p2, .Name x3 p3, .Name x4 p4] k np)) (some n) (b0 :: su) hp :: hds) (([c1, c2, c3, c4], i, ts) :: l)
theorem exm1 {K : PySem.W.Frag} {cls c : Value} {b : Bool} (h : PySem.W.exmOne K cls c = some b) : PySem.W.exmAny K cls [c] = some b := by
  unfold PySem.W.exmAny
  rw [h]
  simp [PySem.W.exmAny]
theorem exm1_of {K : PySem.W.Frag} {cls c : Value} {b : Bool} (h : PySem.W.exmAny K cls [c] = some b) : PySem.W.exmOne K cls c = some b := by
  obtain ⟨b1, d1, h1, h2, h3⟩ := PySem.W.exmAny_cons h
  have h2 : some false = some d1 := h2
  cases h2
  rw [h1, h3, Bool.or_false]
theorem fly_keeps {base h h' : Heap} {l : List Env} {e : Addr} {Z : Obj → Prop} (x : HandSPX.FlyingZ base l e Z h) (k : ∀ b o, h.get? b = some o → h'.get? b = some o) : HandSPX.FlyingZ base l e Z h' := by
  obtain ⟨a1, a2, a3, oe, vs, T, oT, ts, b1, b2, b3, b4, b5, b6, b7, b8, b9⟩ := x
  exact ⟨fun b o z => k _ _ (a1 b o z), a2, a3.of_keeps fun b o z _ => ⟨o, k _ _ z, rfl⟩, oe, vs, T, oT, ts, k _ _ b1, b2, b3, b4, b5, b6, k _ _ b7, b8, b9⟩
abbrev goneD (D : Ends) (i : Nat) : Ends := { nx := fun τ I => D.nx (τ.set i none) I, rt := D.rt, bk := fun τ I => D.bk (τ.set i none) I, ct := fun τ I => D.ct (τ.set i none) I }
def wHd (K : PySem.W.Frag) (Wo : WX) (D : Ends) : List (List Value × Nat × TS) → WX
  | [], cls, d, σ, H => Wo cls d σ H
  | (c, i, ts) :: l, cls, d, σ, H => ∃ b, PySem.W.exmAny K cls c = some b ∧ (b = true → ∃ C, cls = .ref C ∧ ∀ a, H a = none → ts (goneD D i) (σ.set i (some (.ref a))) (L2.upd H a (xob a C d))) ∧ (b = false → wHd K Wo D l cls d σ H)
section
variable {X : Cx} {body : List Stmt} {h0 : ExceptHandler} {hds : List ExceptHandler} {l : List (List Value × Nat × TS)} {pos : Pos} {tb : WX → TS} {Wo : WX}
theorem ps_tryX (st : X.stack = X.env :: X.outer) (fr : X.env.frame = some X.env.locals) (nx : X.ex = []) (nd : X.N.Nodup) (tk : Takes X Wo)
    (hb : ∀ (W : WX) (pn : List (Addr × Obj)) (xe : Value → Shared → Prop), Takes (X.tr pn xe) W → PassesOwn (model X.prog X.w) X.A X.env xe → PSs (X.tr pn xe) body (tb W)) (hh : HdX X (h0 :: hds) l) :
    PS X (.Try body (h0 :: hds) [] [] pos) (fun D σ H => tb (wHd X.K Wo D l) D σ H) := by
  refine ⟨fun pins s σ H D J q => ?_⟩
  have ok := J.ok
  have fs : X.A.frames = some (X.env :: X.outer) := by
    rw [ok.frames, st]
  refine wpAny_Try_except ?_
  have run := (hb (wHd X.K Wo D l) (X.pn ++ pins) (fun e s1 => wpAny (model X.prog X.w) X.A (noteFrame e X.env) (fun _ s2 => wpAny (model X.prog X.w) X.A (setFlight e none) (fun _ s3 =>
    wpAny (model X.prog X.w) X.A (handleBy e X.env (h0 :: hds)) (SP X pins D) X.xe s3) X.xe s2) X.xe s1) (fun u z xx => ?_) PassesOwn.looking).run [] s σ H D (J.toTry _) q
  · refine wpAny_mono run (fun f s1 r => ?_) fun _ _ z => z
    cases f with
    | next =>
      obtain ⟨τ, I, Ji, r⟩ := r
      exact wpAny_execs_nil ⟨τ, I, Ji.ofTry ok, r⟩
    | brk =>
      obtain ⟨τ, I, Ji, r⟩ := r
      exact ⟨τ, I, Ji.ofTry ok, r⟩
    | cont =>
      obtain ⟨τ, I, Ji, r⟩ := r
      exact ⟨τ, I, Ji.ofTry ok, r⟩
    | ret u =>
      obtain ⟨y, τ, I, Ji, ry, r⟩ := r
      exact ⟨y, τ, I, Ji.ofTry ok, ry, r⟩
  · obtain ⟨a, B, sI, _, τ, I, cls, d, rfl, Jt, nb, up, sky, na, eo, ag, ww⟩ := xx
    have Ji : Inv X pins τ I sI := Jt.ofTry ok
    rw [st] at sky
    show wpAny (model X.prog X.w) X.A (noteFrame (.ref a) X.env) _ _ z
    refine Sky.land Zc.steady fs fr sky fun h3 fl up3 => ?_
    have J3 : Inv X pins τ I { z with heap := h3 } := Ji.landed nb fl.1 (up.trans up3) eo ag
    obtain ⟨o3, v3, e3, z3, d3⟩ := fl.there
    have ba : B.get? a = none := fl.2.1
    have far : a ∉ frs (X.env :: X.outer) := fun hm => by
      obtain ⟨_, o', e', nf⟩ := fl.2.2.1.mem hm
      rw [e3] at e'
      cases e'
      exact nf _ d3
    have nl : a ≠ X.env.locals := fun y => far (List.mem_filterMap.mpr ⟨X.env, List.mem_cons_self, by rw [fr, y]⟩)
    have alien : ∀ b o, sI.heap.get? b = some o → b = a → False := fun b o e y => by
      subst y
      rw [nb b o e (by rw [st]; exact far)] at ba
      cases ba
    have n0 : X.s_0.heap.get? a = none := by
      cases y : X.s_0.heap.get? a with
      | none => rfl
      | some o =>
        obtain ⟨o', e'⟩ := Ji.base.there a o y (by rw [nx]; exact fun m => nomatch m)
        exact (alien a o' e' rfl).elim
    have np : ∀ p ∈ X.pn ++ pins, p.1 ≠ a := fun p hp y => alien p.1 p.2 (Ji.pin p hp).1 y
    have go : ∀ {hs' : List ExceptHandler} {l' : List (List Value × Nat × TS)}, HdX X hs' l' → wHd X.K Wo D l' cls d τ I → ∀ h3 : Heap, HandSPX.FlyingZ B (X.env :: X.outer) a (Zc cls d) h3 → sI.heap.UpToSlots h3 → wpAny (model X.prog X.w) X.A (handleBy (.ref a) X.env hs') (SP X pins D) X.xe { z with heap := h3 } := by
      intro hs' l' hk
      induction hk with
      | nil =>
        intro ww h3 fl upx
        refine wpAny_handleBy_nil ?_
        obtain ⟨_, _, _, oe, vs, T, _, _, he, _, hd, h1, _⟩ := id fl
        unfold PySem.passOn
        refine wpAny_bind (wpAny_field he hd h1 ?_)
        rw [if_neg (by simp : ¬ ((Value.ref T == Value.none) = true))]
        have fin : wpAny (model X.prog X.w) X.A (setFlight (.ref a) X.env.frame) (fun _ s4 => wpAny (model X.prog X.w) X.A (throw (.ref a) : Sem Flow) (SP X pins D) X.xe s4) X.xe { z with heap := h3 } := by
          rw [fr]
          refine HandSPX.setFlight_upZ fl fun h4 held u4 => wpAny_throw (tk _ _ ⟨a, B, sI, pins, τ, I, cls, d, rfl, Ji, nb, upx.trans u4, .inr (.inr ?_), na, eo, ag, ww⟩)
          rw [st]
          exact held
        first
          | exact wpAny_bind fin
          | exact wpAny_bind (wpAny_pure (wpAny_bind fin))
      | @cons x n c i ts b0 su np' hp' hs2 l2 hi hl hc hsu r ih =>
        intro ww h3 fl upx
        obtain ⟨b, m1, my, mn⟩ := ww
        have m1 := exm1_of m1
        have J3 : Inv X pins τ I { z with heap := h3 } := Ji.landed nb fl.1 upx eo ag
        obtain ⟨o3, v3, e3, z3, d3⟩ := fl.there
        have Jh := hot_in J3 a
        have LT : PySem.W.Looks (model X.prog X.w) h3 (typeOf (.ref a)) cls := fun A Q E s k y => wpAny_typeOf_ref (k _ _ e3) (by rw [z3.1]; exact y)
        refine wpAny_handleBy_cons (codeAny_handlers_test ?_) (fun y => nomatch y)
        have LM := PySem.W.exm_one (M := model X.prog X.w) J3.kIn LT m1
        have ask : ∀ {Q : Value → Shared → Prop} {E : Value → Shared → Prop}, Q c { z with heap := h3 } → wpAny (model X.prog X.w) (X.A.mark (some (.ref a))) (eval (.Name x np') X.env) Q E { z with heap := h3 } := fun {Q E} y => by
          obtain ⟨g1, g2, g3 | ⟨g3, g4, g5⟩⟩ := hc
          · exact ld_glob (X := hotX X a) Jh g1 g3 y g2
          · exact ld_blt (X := hotX X a) Jh g1 g3 g4 y g5 g2
        refine ask (LM.here ?_)
        cases b with
        | false =>
          show wpAny _ X.A (handleBy (.ref a) X.env hs2) _ _ _
          exact ih (mn rfl) h3 fl upx
        | true =>
          obtain ⟨C, ec, my⟩ := my rfl
          refine codeAny_handlers_suite_as ?_
          refine HandSPX.lands_againZ fl fun h4 fl4 u4 => ?_
          have J4 : Inv X pins τ I { z with heap := h4 } := Ji.landed nb fl4.1 (upx.trans u4) eo ag
          obtain ⟨o4, v4, e4, z4, d4⟩ := fl4.there
          have J5 := hot_in (hold_in J4 e4 (z4.1.trans ec) z4.2 d4 na nl n0 np) a
          refine store_ok (X := hotX X a) (v := .ref a) J5 nd hi (.inl hl) rfl (fun s5 J6 => ?_) (.inr hl)
          refine wpAny_mono ((hsu a).run pins s5 _ _ _ J6 (my a na)) (fun f s6 r6 => ?_) fun _ _ y => y.elim
          have out : ∀ {τ6 : L2.St} {I6 : Hp} {Q : Shared → Prop}, Inv (hotX X a) pins τ6 I6 s6 → (∀ s7, Inv X pins (τ6.set i none) I6 s7 → Q s7) → wpAny (model X.prog X.w) X.A (do bindName X.env n .none; unbindBehindTheSuite X.env n hp') (fun _ s7 => Q s7) X.xe s6 :=
            fun {_ _ _} S6 y => gone_ok (hot_out ok S6) nd hi hl y
          cases f with
          | next =>
            obtain ⟨τ6, I6, S6, r6⟩ := r6
            exact out S6 fun s7 J7 => ⟨_, _, J7, r6⟩
          | brk =>
            obtain ⟨τ6, I6, S6, r6⟩ := r6
            exact out S6 fun s7 J7 => ⟨_, _, J7, r6⟩
          | cont =>
            obtain ⟨τ6, I6, S6, r6⟩ := r6
            exact out S6 fun s7 J7 => ⟨_, _, J7, r6⟩
          | ret u =>
            obtain ⟨y6, τ6, I6, S6, ry, r6⟩ := r6
            exact out S6 fun s7 J7 => ⟨_, _, _, J7, ry, r6⟩
      | @consT x1 x2 x3 x4 n c1 c2 c3 c4 i kk ts b0 su p1 p2 p3 p4 np' hp' hs2 l2 hi hl hc1 hc2 hc3 hc4 hsu r ih =>
        intro ww h3 fl upx
        obtain ⟨b, m1, my, mn⟩ := ww
        have J3 : Inv X pins τ I { z with heap := h3 } := Ji.landed nb fl.1 upx eo ag
        obtain ⟨o3, v3, e3, z3, d3⟩ := fl.there
        have Jh := hot_in J3 a
        have LT : PySem.W.Looks (model X.prog X.w) h3 (typeOf (.ref a)) cls := fun A Q E s k y => wpAny_typeOf_ref (k _ _ e3) (by rw [z3.1]; exact y)
        refine wpAny_handleBy_cons (codeAny_handlers_test ?_) (fun y => nomatch y)
        have ask : ∀ {x : Str} {c : Value} {np' : Pos} {Q : Value → Shared → Prop} {E : Value → Shared → Prop}, Names X x c → Q c { z with heap := h3 } → wpAny (model X.prog X.w) (X.A.mark (some (.ref a))) (eval (.Name x np') X.env) Q E { z with heap := h3 } := fun {x c np' Q E} hc y => by
          obtain ⟨g1, g2, g3 | ⟨g3, g4, g5⟩⟩ := hc
          · exact ld_glob (X := hotX X a) Jh g1 g3 y g2
          · exact ld_blt (X := hotX X a) Jh g1 g3 g4 y g5 g2
        refine wpAny_Tuple_spliced ?_
        show wpAny _ _ (spliced [(false, eval (.Name x1 p1) X.env), (false, eval (.Name x2 p2) X.env), (false, eval (.Name x3 p3) X.env), (false, eval (.Name x4 p4) X.env)]) _ _ _
        refine Calls.spliced_cons (ask hc1 (Calls.spliced_cons (ask hc2 (Calls.spliced_cons (ask hc3 (Calls.spliced_cons (ask hc4 (Calls.spliced_nil ⟨by rw [sizeLine_eq]; show 4 ≤ 16777216; decide, ?_⟩))))))))
        have kp : ∀ b o, h3.get? b = some o → (h3.push { cls := .type "tuple", data := .seq [c1, c2, c3, c4].toArray }).get? b = some o := fun b o y => Heap.get?_push_of_some _ y
        have fl := fly_keeps fl kp
        have upx : sI.heap.UpToSlots (h3.push { cls := .type "tuple", data := .seq [c1, c2, c3, c4].toArray }) := upx.trans fun b o y _ => ⟨o.slots, kp _ _ y⟩
        have LM := PySem.W.exm_tup4 (M := model X.prog X.w) (J3.kIn.keeps kp) (LT.keeps kp) (Heap.get?_push_size _ rfl) m1
        refine LM.here ?_
        cases b with
        | false =>
          show wpAny _ X.A (handleBy (.ref a) X.env hs2) _ _ _
          exact ih (mn rfl) _ fl upx
        | true =>
          obtain ⟨C, ec, my⟩ := my rfl
          refine codeAny_handlers_suite_as ?_
          refine HandSPX.lands_againZ fl fun h4 fl4 u4 => ?_
          have J4 : Inv X pins τ I { z with heap := h4 } := Ji.landed nb fl4.1 (upx.trans u4) eo ag
          obtain ⟨o4, v4, e4, z4, d4⟩ := fl4.there
          have J5 := hot_in (hold_in J4 e4 (z4.1.trans ec) z4.2 d4 na nl n0 np) a
          refine store_ok (X := hotX X a) (v := .ref a) J5 nd hi (.inl hl) rfl (fun s5 J6 => ?_) (.inr hl)
          refine wpAny_mono ((hsu a).run pins s5 _ _ _ J6 (my a na)) (fun f s6 r6 => ?_) fun _ _ y => y.elim
          have out : ∀ {τ6 : L2.St} {I6 : Hp} {Q : Shared → Prop}, Inv (hotX X a) pins τ6 I6 s6 → (∀ s7, Inv X pins (τ6.set i none) I6 s7 → Q s7) → wpAny (model X.prog X.w) X.A (do bindName X.env n .none; unbindBehindTheSuite X.env n hp') (fun _ s7 => Q s7) X.xe s6 :=
            fun {_ _ _} S6 y => gone_ok (hot_out ok S6) nd hi hl y
          cases f with
          | next =>
            obtain ⟨τ6, I6, S6, r6⟩ := r6
            exact out S6 fun s7 J7 => ⟨_, _, J7, r6⟩
          | brk =>
            obtain ⟨τ6, I6, S6, r6⟩ := r6
            exact out S6 fun s7 J7 => ⟨_, _, J7, r6⟩
          | cont =>
            obtain ⟨τ6, I6, S6, r6⟩ := r6
            exact out S6 fun s7 J7 => ⟨_, _, J7, r6⟩
          | ret u =>
            obtain ⟨y6, τ6, I6, S6, ry, r6⟩ := r6
            exact out S6 fun s7 J7 => ⟨_, _, _, J7, ry, r6⟩
    exact go hh ww h3 fl (up.trans up3)
end
end RB
namespace RB
open PySem PySem.Spec PyProof.Rows L2
structure CxH (G : Glob) (X : Cx) (n : Nat) : Prop where
  hK : X.K = G.K
  hu : X.A.units + 64 < cLine
  h1 : X.A.units + 1 < cLine
  gd : X.A.guards = some []
section
variable {G : Glob} {X : Cx} {W : WX} {n : Nat}
theorem CxG.hot (C : CxG G X W n) (a : Addr) : CxH G (hotX X a) n := ⟨C.hK, C.hu, C.h1, C.gd⟩
theorem CxG.tr (C : CxG G X W n) {pn : List (Addr × Obj)} {xe : Value → Shared → Prop} {W' : WX} (t : Takes (X.tr pn xe) W') : CxG G (X.tr pn xe) W' n := ⟨C.hK, t, C.rm, C.gd, C.calm⟩
theorem EnvOk.unset {w : Wd} {σ : L2.St} {r : Rho} (k : EnvOk G w σ r) (i : Nat) : EnvOk G w (σ.set i none) (r.set i none) := by
  refine ⟨by simp [k.len], fun j d h => ?_⟩
  by_cases hj : i = j
  · subst hj
    by_cases hl : i < r.length
    · rw [List.getElem?_set_self hl] at h
      cases h
    · rw [List.getElem?_eq_none (by simpa using hl)] at h
      cases h
  · rw [List.getElem?_set_ne hj] at h ⊢
    exact k.at_ j d h
def goneE (D : DE) (i : Nat) : DE := ⟨fun r S => D.nx (r.set i none) S, D.rt, fun r S => D.bk (r.set i none) S, fun r S => D.ct (r.set i none) S, fun _ _ _ => False⟩
def wPick : List ((String → Bool) × Nat × WS) → DE → Rho → EK
  | [], D, r, x, S => D.xc r x S
  | (t, i, ms) :: l, D, r, x, S => if t x.c = true then ms (goneE D i) (r.set i (some (.p (.obj x.c x.ns x.vs)))) S else wPick l D r x S
def wTry (mb : WS) (hs : List ((String → Bool) × Nat × WS)) : WS := fun D r S => mb { D with xc := fun r x S => wPick hs D r x S } r S
inductive HdL (G : Glob) (X : Cx) : List ExceptHandler → List (List Value × Nat × TS) → List ((String → Bool) × Nat × WS) → Prop
  | nil : HdL G X [] [] []
  | cons {x nm : Str} {c : Value} {i : Nat} {t : String → Bool} {ms : WS} {b0 : Stmt} {su : List Stmt} {np hp : Pos} {hds : List ExceptHandler} {l : List (List Value × Nat × TS)} {hs : List ((String → Bool) × Nat × WS)} (hi : X.N[i]? = some nm) (hl : X.env.kindOf nm = some .local) (hc : Names X x c)
      (hx : ∀ y C, G.cls y = some C → PySem.W.exmOne X.K (.ref C) c = some (t y)) (hsu : ∀ a, RSs G (hotX X a) WF (b0 :: su) ms) (r : HdL G X hds l hs) : HdL G X (.ExceptHandler (some (.Name x np)) (some nm) (b0 :: su) hp :: hds) (([c], i, tMs G WF ms) :: l) ((t, i, ms) :: hs)
  | consT {x1 x2 x3 x4 nm : Str} {c1 c2 c3 c4 : Value} {i k : Nat} {t : String → Bool} {ms : WS} {b0 : Stmt} {su : List Stmt} {p1 p2 p3 p4 np hp : Pos} {hds : List ExceptHandler} {l : List (List Value × Nat × TS)} {hs : List ((String → Bool) × Nat × WS)} (hi : X.N[i]? = some nm) (hl : X.env.kindOf nm = some .local) (h1 : Names X x1 c1) (h2 : Names X x2 c2) (h3 : Names X x3 c3) (h4 : Names X x4 c4)
      (hx : ∀ y C, G.cls y = some C → PySem.W.exmAny X.K (.ref C) [c1, c2, c3, c4] = some (t y)) (hsu : ∀ a, RSs G (hotX X a) WF (b0 :: su) ms) (r : HdL G X hds l hs) : HdL G X (.ExceptHandler (some (.Tuple [.Name x1 p1, .Name x2 p2, .Name x3 p3, .Name x4 p4] k np)) (some nm) (b0 :: su) hp :: hds) (([c1, c2, c3, c4], i, tMs G WF ms) :: l) ((t, i, ms) :: hs)
theorem HdL.low {hds : List ExceptHandler} {l : List (List Value × Nat × TS)} {hs : List ((String → Bool) × Nat × WS)} (h : HdL G X hds l hs) : HdX X hds l := by
  induction h with
  | nil => exact .nil
  | cons hi hl hc _ hsu _ ih => exact .cons hi hl hc (fun a => (hsu a).ps) ih
  | consT hi hl h1 h2 h3 h4 _ hsu _ ih => exact .consT hi hl h1 h2 h3 h4 (fun a => (hsu a).ps) ih
theorem goneE_le {D D' : DE} (l : DE.le D D') (i : Nat) : DE.le (goneE D i) (goneE D' i) := ⟨fun _ _ q => l.nx _ _ q, l.rt, fun _ _ q => l.bk _ _ q, fun _ _ q => l.ct _ _ q, fun _ _ _ q => q⟩
theorem HdL.mono {hds : List ExceptHandler} {l : List (List Value × Nat × TS)} {hs : List ((String → Bool) × Nat × WS)} (h : HdL G X hds l hs) {D D' : DE} (le : DE.le D D') {r : Rho} {x : Exc} {S : Store} : wPick hs D r x S → wPick hs D' r x S := by
  induction h with
  | nil => exact fun q => le.xc _ _ _ q
  | cons _ _ _ _ hsu _ ih =>
    intro q
    unfold wPick at q ⊢
    split at q
    · rename_i e
      rw [if_pos e]
      exact (hsu 0).mono _ _ _ _ (goneE_le le _) q
    · rename_i e
      rw [if_neg e]
      exact ih q
  | consT _ _ _ _ _ _ _ hsu _ ih =>
    intro q
    unfold wPick at q ⊢
    split at q
    · rename_i e
      rw [if_pos e]
      exact (hsu 0).mono _ _ _ _ (goneE_le le _) q
    · rename_i e
      rw [if_neg e]
      exact ih q
theorem HdL.pick {hds : List ExceptHandler} {l : List (List Value × Nat × TS)} {hs : List ((String → Bool) × Nat × WS)} (h : HdL G X hds l hs) {D : Ends} {w : Wd} {H : Hp} {r : Rho} {x : Exc} {S : Store} : wPick hs (lowE G w H W D) r x S → Sx G w H (wHd X.K W D l) r x S := by
  induction h with
  | nil => exact fun q => q
  | @cons xn nm c i t ms b0 su np hp hds l hs hi hl hc hx hsu _ ih =>
    intro q σ cls dd w1 H1 x1 k1 en rx
    obtain ⟨e1, e0, e2⟩ := id rx
    obtain ⟨C, hC, ec⟩ := Option.map_eq_some_iff.mp e1
    subst ec
    unfold wPick at q
    refine ⟨t x.c, exm1 (hx _ _ hC), fun y => ?_, fun y => ?_⟩
    · rw [if_pos y] at q
      refine ⟨C, rfl, fun a na => ?_⟩
      obtain ⟨k2, x2⟩ := k1.alloc (o := xob a C dd) na
      refine ⟨_, S, r.set i (some (.p (.obj x.c x.ns x.vs))), k2, EnvOk.set (en.mono x2) ?_ i, (hsu 0).mono (goneE (lowE G w H W D) i) _ _ _ ⟨fun r2 S2 z τ w3 H3 x3 k3 en3 => ?_, fun d S2 z => Qv.ext (x1.trans x2) z, fun r2 S2 z τ w3 H3 x3 k3 en3 => ?_, fun r2 S2 z τ w3 H3 x3 k3 en3 => ?_, fun _ _ _ z => False.elim z⟩ q⟩
      · show Rep G _ (.ref a) (.obj x.c x.ns x.vs)
        simp only [Rep]
        rcases e2 with ⟨d1, n1, v1⟩ | ⟨d, fs, d1, hd, n1, v1⟩
        · exact ⟨a, C, [], rfl, hC, .inr ⟨e0, dd, upd_same, .inl ⟨d1, rfl⟩⟩, by rw [n1]; rfl, by rw [v1]; exact Reps.nil⟩
        · exact ⟨a, C, fs, rfl, hC, .inr ⟨e0, dd, upd_same, .inr ⟨d, d1, x2.I _ _ hd⟩⟩, n1, v1.mono x2.I x2.as⟩
      · exact z _ w3 H3 ((x1.trans x2).trans x3) k3 (en3.unset i)
      · exact z _ w3 H3 ((x1.trans x2).trans x3) k3 (en3.unset i)
      · exact z _ w3 H3 ((x1.trans x2).trans x3) k3 (en3.unset i)
    · rw [if_neg (by rw [y]; decide)] at q
      exact ih q σ (.ref C) dd w1 H1 x1 k1 en rx
  | @consT x1 x2 x3 x4 nm c1 c2 c3 c4 i kk t ms b0 su p1 p2 p3 p4 np hp hds l hs hi hl h1 h2 h3 h4 hx hsu _ ih =>
    intro q σ cls dd w1 H1 x1 k1 en rx
    obtain ⟨e1, e0, e2⟩ := id rx
    obtain ⟨C, hC, ec⟩ := Option.map_eq_some_iff.mp e1
    subst ec
    unfold wPick at q
    refine ⟨t x.c, hx _ _ hC, fun y => ?_, fun y => ?_⟩
    · rw [if_pos y] at q
      refine ⟨C, rfl, fun a na => ?_⟩
      obtain ⟨k2, x2⟩ := k1.alloc (o := xob a C dd) na
      refine ⟨_, S, r.set i (some (.p (.obj x.c x.ns x.vs))), k2, EnvOk.set (en.mono x2) ?_ i, (hsu 0).mono (goneE (lowE G w H W D) i) _ _ _ ⟨fun r2 S2 z τ w3 H3 x3 k3 en3 => ?_, fun d S2 z => Qv.ext (x1.trans x2) z, fun r2 S2 z τ w3 H3 x3 k3 en3 => ?_, fun r2 S2 z τ w3 H3 x3 k3 en3 => ?_, fun _ _ _ z => False.elim z⟩ q⟩
      · show Rep G _ (.ref a) (.obj x.c x.ns x.vs)
        simp only [Rep]
        rcases e2 with ⟨d1, n1, v1⟩ | ⟨d, fs, d1, hd, n1, v1⟩
        · exact ⟨a, C, [], rfl, hC, .inr ⟨e0, dd, upd_same, .inl ⟨d1, rfl⟩⟩, by rw [n1]; rfl, by rw [v1]; exact Reps.nil⟩
        · exact ⟨a, C, fs, rfl, hC, .inr ⟨e0, dd, upd_same, .inr ⟨d, d1, x2.I _ _ hd⟩⟩, n1, v1.mono x2.I x2.as⟩
      · exact z _ w3 H3 ((x1.trans x2).trans x3) k3 (en3.unset i)
      · exact z _ w3 H3 ((x1.trans x2).trans x3) k3 (en3.unset i)
      · exact z _ w3 H3 ((x1.trans x2).trans x3) k3 (en3.unset i)
    · rw [if_neg (by rw [y]; decide)] at q
      exact ih q σ (.ref C) dd w1 H1 x1 k1 en rx
theorem rs_try {body : List Stmt} {h0 : ExceptHandler} {hds : List ExceptHandler} {l : List (List Value × Nat × TS)} {hs : List ((String → Bool) × Nat × WS)} {mb : WS} {pos : Pos} (C : CxG G X W n) (st : X.stack = X.env :: X.outer) (fr : X.env.frame = some X.env.locals) (nx : X.ex = []) (nd : X.N.Nodup)
    (hb : ∀ (W' : WX) (pn : List (Addr × Obj)) (xe : Value → Shared → Prop), CxG G (X.tr pn xe) W' n → PassesOwn (model X.prog X.w) X.A X.env xe → RSs G (X.tr pn xe) W' body mb) (hm : MonS mb) (hh : HdL G X (h0 :: hds) l hs) :
    RS G X W (.Try body (h0 :: hds) [] [] pos) (wTry mb hs) := by
  refine ⟨PS.imp (ps_tryX (tb := fun W' => tMs G W' mb) st fr nx nd C.tk (fun W' pn xe t p => (hb W' pn xe (C.tr t) p).ps) hh.low) fun D σ H ⟨w, S, r, ok, en, q⟩ => ?_, fun D D' r S le q => ?_⟩
  · exact ⟨w, S, r, ok, en, hm { lowE G w H W D with xc := fun r x S => wPick hs (lowE G w H W D) r x S } _ _ _ ⟨fun _ _ z => z, fun _ _ z => z, fun _ _ z => z, fun _ _ z => z, fun _ _ _ z => hh.pick z⟩ q⟩
  · exact hm { D with xc := fun r x S => wPick hs D r x S } _ _ _ ⟨le.nx, le.rt, le.bk, le.ct, fun _ _ _ z => hh.mono le z⟩ q
end
end RB
namespace RB
open PySem PySem.Spec PyProof.Rows L2
def flook : List Str → List P → Str → Option P
  | k :: ks, v :: vs, f => if f = k then some v else flook ks vs f
  | _, _, _ => none
theorem flook_ok {G : Glob} {I : Wd} : ∀ {fs : List (Str × V)} {ns : List Str} {ds : List P} {f : Str} {p : P}, fs.map (·.1) = ns → Reps G I (fs.map (·.2)) ds → flook ns ds f = some p → ∃ v, fs.lookup f = some v ∧ Rep G I v p
  | [], ns, ds, f, p, e, r, q => by
    subst e
    cases q
  | (k, v) :: fs, ns, ds, f, p, e, r, q => by
    subst e
    cases ds with
    | nil => simp only [List.map_cons, Reps] at r; cases r
    | cons d ds =>
      simp only [List.map_cons, Reps] at r
      obtain ⟨v', r', e', r1, r2⟩ := r
      cases e'
      simp only [List.map_cons, flook] at q
      by_cases h : f = k
      · rw [if_pos h] at q
        cases q
        exact ⟨v, by simp [List.lookup, h], r1⟩
      · rw [if_neg h] at q
        obtain ⟨v2, l2, r3⟩ := flook_ok rfl r2 q
        exact ⟨v2, by simp [List.lookup, show (f == k) = false from beq_eq_false_iff_ne.mpr h, l2], r3⟩
def objOf (S : Store) : D → Option (String × List Str × List P)
  | .p (.obj c ns vs) => some (c, ns, vs)
  | .cell n => match S[n]? with
    | some (.obj c ns vs) => some (c, ns, vs)
    | _ => none
  | _ => none
section
variable {G : Glob} {X : Cx} {W : WX} {e : Expr} {pos : Pos} {f : Str}
theorem objOf_at {w : Wd} {S : Store} {H : Hp} (k : Wok G w S H) {v : V} {d : D} {c : String} {ns : List Str} {vs : List P} (r : RepD G w v d) (q : objOf S d = some (c, ns, vs)) : ∃ a C fs, v = .ref a ∧ G.cls c = some C ∧ ObjAt (G.isE c) H a C fs ∧ fs.map (·.1) = ns ∧ Reps G ⟨H, w.as, w.ts⟩ (fs.map (·.2)) vs := by
  cases d with
  | p d =>
    cases d <;> simp only [objOf] at q <;> cases q
    have r : Rep G w v (.obj c ns vs) := r
    simp only [Rep] at r
    obtain ⟨a, C, fs, e1, e2, e3, e4, e5⟩ := r
    exact ⟨a, C, fs, e1, e2, e3.mono k.sub, e4, e5.mono k.sub⟩
  | fn => simp [objOf] at q
  | cell n =>
    obtain ⟨a, rfl, ha⟩ := r
    obtain ⟨z, hz, ok⟩ := k.idx ha
    simp only [objOf, hz] at q
    cases z with
    | obj c' ns' vs' =>
      cases q
      obtain ⟨_, x0, C, dx, fs, e1, e2, e3, e4⟩ := ok
      exact ⟨a, C, fs, rfl, e1, .inl ⟨x0, dx, e2⟩, e3, e4.mono k.sub⟩
    | lst _ => cases q
    | dK _ _ => cases q
    | dead => cases q
def dAttr (cs : List String) (f : Str) (d : D) (S : Store) (Q : DK) : Prop := match objOf S d with
  | some (c, ns, vs) => c ∈ cs ∧ ∃ p, flook ns vs f = some p ∧ Q (.p p) S
  | none => False
def AtC (G : Glob) (K : PySem.W.Frag) (c : String) (C : Addr) (f : Str) : Prop := PySem.W.findIn K (.ref C) f = some none ∧ ((G.isE c = true → XfC K C) ∧ (G.isE c = false → Cls K C))
def wAttr (cs : List String) (f : Str) (m : WE) : WE := wUn (dAttr cs f) m
theorem dAttr_mono (cs : List String) (f : Str) (d : D) (S : Store) (Q Q' : DK) (hq : ∀ d S, Q d S → Q' d S) (h : dAttr cs f d S Q) : dAttr cs f d S Q' := by
  unfold dAttr at h ⊢
  split at h
  · obtain ⟨h1, p, h2, h3⟩ := h
    exact ⟨h1, p, h2, hq _ _ h3⟩
  · exact h.elim
theorem re_attr {cs : List String} {m : WE} (ha : ∀ c ∈ cs, ∀ C, G.cls c = some C → AtC G X.K c C f) (he : RE G X W e m) (hb : attributeBase e f X.env (eval e X.env) = eval e X.env := by rfl) : RE G X W (.Attribute e f pos) (wAttr cs f m) := by
  refine ⟨⟨fun pins s σ H Q J ⟨w, S, r, ok, en, q⟩ => ?_⟩, fun r S Q Q' E E' hq hE h => he.mono r S _ _ _ _ (fun d S1 z => dAttr_mono _ _ _ _ _ _ hq z) hE h⟩
  refine attr_of hb ?_
  have h1 : tM G W m σ H fun v H1 => ∃ a C fs p u, v = .ref a ∧ ObjAt (G.isE p) H1 a C fs ∧ AtC G X.K p C f ∧ fs.lookup f = some u ∧ Q u H1 := by
    refine tM.bind he.mono ok en q (fun _ _ _ z => z) fun d S1 v w1 H1 x1 k1 r1 z => ?_
    unfold dAttr at z
    split at z
    · rename_i c ns vs hz
      obtain ⟨hc, p, hp, z⟩ := z
      cases d with
      | p d =>
        cases d <;> simp only [objOf] at hz <;> cases hz
        have r2 : Rep G w1 v (.obj c ns vs) := r1
        simp only [Rep] at r2
        obtain ⟨a2, C2, fs2, e1', e2', e3', e4', e5'⟩ := r2
        obtain ⟨u, hu, ru⟩ := flook_ok e4' e5' hp
        exact ⟨a2, C2, fs2, c, u, e1', e3'.mono k1.sub, ha c hc C2 e2', hu, z u w1 H1 x1 k1 ru⟩
      | fn => simp [objOf] at hz
      | cell n =>
        obtain ⟨a, rfl, hA⟩ := r1
        obtain ⟨y, hy, okc⟩ := k1.idx hA
        simp only [objOf, hy] at hz
        cases y with
        | obj c' ns' vs' =>
          cases hz
          obtain ⟨_, hx, C, dx, fs, e1, e2, e3, e4⟩ := okc
          obtain ⟨u, hu, ru⟩ := flook_ok e3 e4 hp
          exact ⟨a, C, fs, c, u, rfl, .inl ⟨hx, dx, e2⟩, ha c hc C e1, hu, z u w1 H1 x1 k1 ru⟩
        | lst _ => cases hz
        | dK _ _ => cases hz
        | dead => cases hz
    · exact z.elim
  refine thn (he.pe.run pins s σ H _ J h1) fun u s1 ⟨x, H1, J1, rx, a, C, fs, p, v, ex, ob, at_, l, q⟩ => ?_
  subst ex
  obtain rfl : u = Value.ref a := rx
  rcases ob with ⟨y, dx, ea⟩ | ⟨y, dd, ea, z⟩
  · exact getattr_ok J1 ea (at_.2.2 y) at_.1 l fun u' s2 J2 ru => ⟨v, H1, J2, ru, q⟩
  · have T := at_.2.1 y
    obtain ⟨⟨oe, vs, hg, hc, hd, hv⟩, _⟩ := J1.hok a _ ea
    rcases z with ⟨_, rfl⟩ | ⟨d, rfl, hdx⟩
    · cases l
    · obtain ⟨mA, hns, hr⟩ := J1.hok d _ hdx
      obtain ⟨od, ho, hl⟩ := lookIn_ns hns
      obtain ⟨u, hu, ru⟩ := RelO.some_of (v := v) (o := mA f) (by rw [← l]; exact hr f)
      have In : PySem.W.InstAt s1.heap a oe C (some od) := ⟨hg, hc, by unfold PySem.W.notCls; rw [hv] <;> rfl, by rw [hd]; exact ho⟩
      exact HandSPX.exc_get J1.kIn In T.ga T.gg T.exC (PySem.W.findObj_own T.hdC at_.1 rfl (by rw [hl, hu])) (handed_of ru) ⟨v, H1, J1.tok _, ru, q⟩
def tyN (S : Store) (d : D) : Option String := match objOf S d with
  | some (c, _, _) => some c
  | none => tyS S d
structure IsC (K : PySem.W.Frag) (C : Addr) : Prop where
  cl : (PySem.W.clsIn K C).isSome = true
  gg : PySem.W.findIn K (.ref C) "__getattr__" = some none
  ca : PySem.W.findIn K (.ref C) "__class__" = some (some (.builtin "object.__class__"))
  sp : PySem.W.specialIn K (.builtin "object.__class__") "__get__" = some (some (.builtin "getset_descriptor.__get__"))
  tk : PySem.W.takesIn K (.builtin "object.__class__") = some true
  mo : PySem.W.mroIn K C (.type "object") = some true
def dIsK (ts : List String) (t : String → Bool) (d : D) (S : Store) (Q : DK) : Prop := match tyN S d with
  | some c => c ∈ ts ∧ Q (.p (.bl (t c))) S
  | none => False
theorem dIsK_mono (ts : List String) (t : String → Bool) (d : D) (S : Store) (Q Q' : DK) (hq : ∀ d S, Q d S → Q' d S) (h : dIsK ts t d S Q) : dIsK ts t d S Q' := by
  unfold dIsK at h ⊢
  split at h
  · exact ⟨h.1, hq _ _ h.2⟩
  · exact h.elim
structure IsT (G : Glob) (K : PySem.W.Frag) (ts : List String) (u : Value) (t : String → Bool) : Prop where
  own : ∀ c ∈ ts, ∀ C, G.cls c = some C → IsC K C ∧ (G.isE c = true → XfC K C) ∧ (G.isE c = false → Cls K C) ∧ PySem.W.kitOne K (.ref C) u = some (t c)
  blt : ∀ c ∈ ts, c ∈ ["NoneType", "bool", "int", "str", "tuple", "list", "dict"] → PySem.W.kitOne K (.type c) u = some (t c)
theorem re_isK {ts : List String} {t : String → Bool} {m : WE} {p p1 : Pos} {x : Str} {u : Value} {uv : V} (hK : X.K = G.K) (T : IsT G X.K ts u t) (hu : ClsV uv u) (he : RE G X W e m) (hx : PE X (.Name x p1) (tC uv)) (hg : Gl X "isinstance") (hm : X.mg "isinstance" = none)
    (hs : starEach [e, .Name x p1] X.env = (false, eval e X.env) :: starEach [.Name x p1] X.env := by rfl) : RE G X W (.Call (.Name "isinstance" p) [e, .Name x p1] [] pos) (wUn (dIsK ts t) m) := by
  have call_k : CallR X (.builtin "isinstance") (fun xs H Q => ∃ (y : V) (c : String), xs = [y, uv] ∧ c ∈ ts ∧ ((∃ a C fs, y = .ref a ∧ G.cls c = some C ∧ ObjAt (G.isE c) H a C fs) ∨ TyX X.K H y (.type c) ∧ c ∈ ["NoneType", "bool", "int", "str", "tuple", "list", "dict"]) ∧ Q (.bl (t c)) H) := by
    intro pins s σ H xs us Q J rx h
    obtain ⟨y, c, rfl, hc, z, q⟩ := h
    cases rx with
    | cons r1 rr =>
      cases rr with
      | cons r2 rr =>
        cases rr
        have ec := hu.eq r2
        subst ec
        have fin : ∀ tk, EP X pins σ Q (.bool (t c)) { s with toks := tk } := fun tk => ⟨.bl (t c), H, J.tok _, rfl, q⟩
        rcases z with ⟨a, C, fs, rfl, hC, ob⟩ | ⟨ty, hm⟩
        · cases (show _ = Value.ref a from r1)
          obtain ⟨k0, k1, k2, k3⟩ := T.own c hc C hC
          rcases ob with ⟨y, dx, ea⟩ | ⟨y, dd, ea, fz⟩
          · exact isinst_ok (x := .ref a) J rfl (.ins ea (k2 y) k0.ca k0.sp k0.tk k0.mo) k3 fin
          · have T1 := k1 y
            obtain ⟨⟨oe, vs, hg, hcl, hd, hv⟩, _⟩ := J.hok a _ ea
            have kx := fun od => PySem.W.kitx_exc (x := a) (ox := oe) (od := od) k0.cl T1.ga T1.gg T1.exC k0.ca k0.sp k0.tk k0.mo
            have nc : PySem.W.notCls oe = true := by
              unfold PySem.W.notCls
              rw [hv]
            rcases fz with ⟨rfl, _⟩ | ⟨d, rfl, hdx⟩
            · exact PySem.W.kia_one (kx none) J.kIn ⟨hg, hcl, nc, by rw [hd]; trivial⟩ k3 (fun z => nomatch z) fin
            · obtain ⟨mA, hns, hr⟩ := J.hok d _ hdx
              obtain ⟨od, ho, hl⟩ := lookIn_ns hns
              exact PySem.W.kia_one (kx (some od)) J.kIn ⟨hg, hcl, nc, by rw [hd]; exact ho⟩ k3 (fun z => nomatch z) fin
        · obtain ⟨P, k1, k2, k3⟩ := kit_of J r1 ty
          exact PySem.W.kia_one k1 J.kIn k2 (T.blt c hc hm) k3 fin
  refine ⟨PE.imp (pe_callB call_k hg hm (by decide +kernel) (pa_cons he.pe (pa_cons hx pa_nil) hs) (he := hs)) fun σ H Q ⟨w, S, ρ, ok, en, q⟩ => ?_, fun r S Q Q' E E' hq hE h => he.mono r S _ _ _ _ (fun d S1 z => dIsK_mono _ _ _ _ _ _ hq z) hE h⟩
  refine tM.bind he.mono ok en q (fun _ _ _ z => z) fun d S1 y w1 H1 x1 k1 r1 q1 => ?_
  refine ⟨y, ?_⟩
  unfold dIsK at q1
  split at q1
  · rename_i c hc
    unfold tyN at hc
    split at hc
    · rename_i c' ns vs ho
      cases hc
      obtain ⟨a, C, fs, e1, e2, e3, _⟩ := objOf_at k1 r1 ho
      exact ⟨c, rfl, q1.1, .inl ⟨a, C, fs, e1, e2, e3⟩, q1.2 (.bl (t c)) w1 H1 x1 k1 (rep_bl.mpr rfl)⟩
    · exact ⟨c, rfl, q1.1, .inr ⟨tyS_ok hK.symm k1 r1 hc, tyS_mem hc⟩, q1.2 (.bl (t c)) w1 H1 x1 k1 (rep_bl.mpr rfl)⟩
  · exact q1.elim
end
end RB
namespace RB
open PySem PySem.Spec PyProof.Rows L2
section
variable {G : Glob} {X : Cx} {W : WX} {e : Expr} {pos : Pos} {m : WE} {ma : WA}
def wPar2 (i j : Nat) (ma : WA) : WS := fun D r S => ma r S (fun ds S1 => match ds with
  | [d1, d2] => D.nx ((r.set i (some d1)).set j (some d2)) S1
  | _ => False) (D.xc r)
def wPar3 (i j l : Nat) (ma : WA) : WS := fun D r S => ma r S (fun ds S1 => match ds with
  | [d1, d2, d3] => D.nx (((r.set i (some d1)).set j (some d2)).set l (some d3)) S1
  | _ => False) (D.xc r)
theorem RepDs.two {w : Wd} {vs : List V} {d1 d2 : D} (h : RepDs G w vs [d1, d2]) : ∃ v1 v2, vs = [v1, v2] ∧ RepD G w v1 d1 ∧ RepD G w v2 d2 := by
  match vs, h with
  | [v1, v2], ⟨h1, h2, _⟩ => exact ⟨v1, v2, rfl, h1, h2⟩
theorem rs_par2 {i j : Nat} {x y : Str} {a b : Expr} {px py pt : Pos} {kt k2 pt2} (hc : X.calm = true) (hN : X.N.Nodup) (hi : X.N[i]? = some x) (hj : X.N[j]? = some y) (hij : i ≠ j) (hx : X.env.scope.names.lookup x = some .local) (hy : X.env.scope.names.lookup y = some .local) (ha : RA G X W [a, b] ma)
    (hw : swappedStores [.Tuple [.Name x px, .Name y py] kt pt] (.Tuple [a, b] k2 pt2) X.env = pure (some [x, y]) := by rfl) (hs : swapsWithSole [.Tuple [.Name x px, .Name y py] kt pt] (.Tuple [a, b] k2 pt2) pos.line X.env = pure false := by rfl) :
    RS G X W (.Assign [.Tuple [.Name x px, .Name y py] kt pt] (.Tuple [a, b] k2 pt2) pos) (wPar2 i j ma) := by
  refine ⟨PS.imp (ps_par hc hN hi hj hij hx hy ha.pe hw hs) fun D σ H ⟨w, S, r, ok, en, q⟩ => ?_, fun D D' r S l q => ha.mono _ _ _ _ _ _ (fun ds S1 z => ?_) (l.xc r) q⟩
  · refine ⟨w, S, r, ok, en, ha.mono r S _ _ _ _ (fun ds S1 z vs w1 H1 x1 k1 rs => ?_) (fun y S' z => z.at_ en) q⟩
    split at z
    · obtain ⟨v1, v2, rfl, r1, r2⟩ := rs.two
      exact ⟨v1, v2, rfl, z _ w1 H1 x1 k1 (((en.mono x1).set r1 i).set r2 j)⟩
    · exact z.elim
  · split at z
    · exact l.nx _ _ z
    · exact z.elim
def seqD (S : Store) : D → Option (List P)
  | .p (.tup ps) => some ps
  | .p (.lst ps) => some ps
  | .cell n => match S[n]? with
    | some (.lst ps) => some ps
    | _ => none
  | _ => none
def wAsgT (is : List Nat) (m : WE) : WS := fun D r S => m r S (fun d S1 => match seqD S1 d with
  | some ps => ps.length = is.length ∧ D.nx (setAll is ps r) S1
  | none => False) (D.xc r)
theorem rs_asgT {is : List Nat} {es : List Expr} {k : Nat} {tp : Pos} (hK : X.K = G.K) (hc : X.calm = true) (he : RE G X W e m) (hg : PGs X es (gNames is)) (hn : (assignEach es X.env).length = is.length := by rfl) (hst : (assignEach es X.env).findIdx? (·.1) = none := by rfl)
    (hs : swapsWithSole [.Tuple es k tp] e pos.line X.env = pure false := by rfl) (hw : swappedStores [.Tuple es k tp] e X.env = pure none := by rfl) (h1 : (assignEach [.Tuple es k tp] X.env).map (·.2) = [assign (.Tuple es k tp) X.env] := by rfl) :
    RS G X W (.Assign [.Tuple es k tp] e pos) (wAsgT is m) := by
  have pg : PG X (.Tuple es k tp) (fun v σ H Q => gTup X.K is.length (gNames is) v σ H Q ∨ gLst X.K is.length (gNames is) v σ H Q) := by
    refine ⟨fun pins s σ H v u Q J r h => ?_⟩
    rcases h with h | h
    · exact (pg_tup (pos := tp) hc hg hn hst).run pins s σ H v u Q J r h
    · exact (pg_lst (pos := tp) hc hg hn hst).run pins s σ H v u Q J r h
  refine ⟨PS.imp (ps_asg he.pe pg hs hw h1) fun D σ H ⟨w, S, r, ok, en, q⟩ => ?_, fun D D' r S l q => he.mono _ _ _ _ _ _ (fun d S1 z => ?_) (l.xc r) q⟩
  · refine tM.low he.mono ok en q fun d S1 v w1 H1 x1 k1 rd z => ?_
    split at z
    · rename_i ps hp
      obtain ⟨l, z⟩ := z
      have fin : ∀ {vs : List V}, Reps G w1 vs ps → gNames is vs σ H1 D.nx := fun {vs} rs => gNames_ok rs l (en.mono x1) fun σ' en' _ => z σ' w1 H1 x1 k1 en'
      cases d with
      | p d =>
        cases d <;> simp only [seqD] at hp <;> cases hp
        · obtain ⟨a, vs, rfl, y, rs⟩ := rep_tup.mp rd
          exact .inl ⟨a, vs, rfl, by rw [hK]; exact Same.tup k1.sub y, by rw [rs.length]; exact l, fin rs⟩
        · have rd : Rep G w1 v (.lst ps) := rd
          simp only [Rep] at rd
          obtain ⟨a, vs, rfl, y, rs⟩ := rd
          exact .inr ⟨a, vs, rfl, .inl (.inl (k1.sub _ _ y)), by rw [rs.length]; exact l, fin rs⟩
      | fn => simp [seqD] at hp
      | cell n =>
        obtain ⟨a, rfl, hA⟩ := rd
        obtain ⟨y, hy, okc⟩ := k1.idx hA
        simp only [seqD, hy] at hp
        cases y with
        | lst ds =>
          cases hp
          obtain ⟨_, vs, hH, rs⟩ := okc
          exact .inr ⟨a, vs, rfl, .inl (.inl hH), by rw [rs.length]; exact l, fin rs⟩
        | dK _ _ => cases hp
        | obj _ _ _ => cases hp
        | dead => cases hp
    · exact z.elim
  · split at z
    · exact ⟨z.1, l.nx _ _ z.2⟩
    · exact z.elim
end
end RB
namespace RB
open PySem PySem.Spec PyProof.Rows L2
section
variable {G : Glob} {X : Cx} {W : WX} {o e : Expr} {es : List Expr} {apos pos : Pos} {T id : String} {name : Str}
theorem tyV_of {w : Wd} {S : Store} {H : Hp} (hK : X.K = G.K) (k : Wok G w S H) {d : D} {x : V} (r : RepD G w x d) (h : tyS S d = some T) (hT : T ∈ ["str", "list", "dict"]) : tyV X.K T x H := by
  cases d with
  | p d =>
    cases d with
    | str z =>
      cases h
      rw [rep_str.mp r]
      rfl
    | lst ds =>
      cases h
      have r : Rep G w x (.lst ds) := r
      simp only [Rep] at r
      obtain ⟨a, vs, rfl, z, _⟩ := r
      exact .inl ⟨rfl, vs, .inl (.inl (k.sub _ _ z))⟩
    | dK ks ds =>
      cases h
      have r : Rep G w x (.dK ks ds) := r
      simp only [Rep] at r
      obtain ⟨a, kvs, rfl, z, _⟩ := r
      exact .inr (.inr (.inl ⟨rfl, .inl ⟨kvs, k.sub _ _ z⟩⟩))
    | dT ks ds =>
      cases h
      have r : Rep G w x (.dT ks ds) := r
      simp only [Rep] at r
      obtain ⟨a, kvs, rfl, z, _⟩ := r
      exact .inr (.inr (.inl ⟨rfl, .inr ⟨kvs, k.sub _ _ z⟩⟩))
    | non => cases h; simp at hT
    | bl _ => cases h; simp at hT
    | int _ => cases h; simp at hT
    | tup _ => cases h; simp at hT
    | ty _ => cases h
    | scr _ => cases h
    | obj _ _ _ => cases h
    | cel _ => cases h
    | fK _ _ => cases h
  | fn => simp [tyS] at h
  | cell n =>
    obtain ⟨a, rfl, ha⟩ := r
    obtain ⟨c, hc, ok⟩ := k.idx ha
    simp only [tyS, hc] at h
    cases c with
    | lst ds =>
      cases h
      obtain ⟨_, vs, z, _⟩ := ok
      exact .inl ⟨rfl, vs, .inl (.inl z)⟩
    | dK ks ds =>
      cases h
      obtain ⟨_, kvs, z, _⟩ := ok
      exact .inr (.inr (.inl ⟨rfl, .inl ⟨kvs, z⟩⟩))
    | obj _ _ _ => cases h
    | dead => cases h
def wBM (T : String) (f : D → List D → Store → DK → Prop) (mo : WE) (ma : WA) : WE := fun r S Q E => mo r S (fun d S1 => tyS S1 d = some T ∧ ma r S1 (fun ds S2 => f d ds S2 Q) E) E
structure MtL (G : Glob) (X : Cx) (id : String) (f : D → List D → Store → DK → Prop) : Prop where
  run : ∃ rr, MtR X id rr ∧ ∀ x xs H Q w S d ds, Wok G w S H → RepD G w x d → RepDs G w xs ds → f d ds S (Qv G w H Q) → rr x xs H Q
  mono : ∀ d ds S Q Q', (∀ d S, Q d S → Q' d S) → f d ds S Q → f d ds S Q'
theorem re_bm {f : D → List D → Store → DK → Prop} {mo : WE} {ma : WA} (hK : X.K = G.K) (pa : PlainAttrs T) (slot : Slot T name id) (hty : typeOf (.builtin id) = pure (.type "method_descriptor")) (hT : T ∈ ["str", "list", "dict"]) (hm : MtL G X id f) (ho : RE G X W o mo) (ha : RA G X W (e :: es) ma)
    (hbase : attributeBase o name X.env (eval o X.env) = eval o X.env := by rfl)
    (hfew : ((backTo pos (starEach (e :: es) X.env)).all (fun x => !x.1) && (backToKw pos (keywordEach [] X.env)).all (fun x => x.1.isSome) && decide ((e :: es).length + ([] : List Keyword).length + (if ([] : List Keyword).isEmpty then 0 else 1) < 30)) = true := by rfl)
    (hline : (apos.endLine == pos.line) = true := by rfl) (hs : starEach (e :: es) X.env = (false, eval e X.env) :: starEach es X.env := by rfl) (hplain : (backTo pos (starEach es X.env)).any (·.1) = false := by rfl) :
    RE G X W (.Call (.Attribute o name apos) (e :: es) [] pos) (wBM T f mo ma) := by
  obtain ⟨rr, h1, h2⟩ := hm.run
  refine ⟨PE.imp (pe_bm pa slot hty h1 ho.pe ha.pe hbase hfew hline hs hplain) fun σ H Q ⟨w, S, r, ok, en, q⟩ => ?_, fun r S Q Q' E E' hq hE h => ho.mono r S _ _ _ _ (fun d S1 z => ⟨z.1, ha.mono _ _ _ _ _ _ (fun ds S2 y => hm.mono _ _ _ _ _ hq y) hE z.2⟩) hE h⟩
  refine tM.bind ho.mono ok en q (fun _ _ _ z => z) fun d S1 x w1 H1 x1 k1 r1 z => ?_
  refine ⟨tyV_of hK k1 r1 z.1 hT, w1, S1, r, k1, en.mono x1, ha.mono _ _ _ _ _ _ (fun ds S2 y vs w2 H2 x2 k2 r2 => ?_) (fun y S' u => u.ext x1) z.2⟩
  exact h2 x vs H2 Q w2 S2 d ds k2 (r1.mono x2) r2 (hm.mono _ _ _ _ _ (fun _ _ u => u.ext (x1.trans x2)) y)
def dAppend (d : D) (ds : List D) (S : Store) (Q : DK) : Prop := match d, ds with
  | .cell n, [.p p] => match S[n]? with
    | some (.lst ps) => ps.length < sizeLine ∧ Q (.p .non) (S.set n (.lst (ps ++ [p])))
    | _ => False
  | _, _ => False
theorem ml_append : MtL G X "list.append" dAppend := by
  refine ⟨⟨rAppend, mt_append, fun x xs H Q w S d ds k r rs q => ?_⟩, fun d ds S Q Q' hq q => ?_⟩
  · unfold dAppend at q
    split at q
    · rename_i n p
      split at q
      · rename_i ps hs
        obtain ⟨a, rfl, ha⟩ := r
        obtain ⟨v, rfl, rv⟩ := reps1 rs
        obtain ⟨nI, vs, z, rp⟩ := k.cells n _ a hs ha
        obtain ⟨k2, x2⟩ := k.write (o := .lst (vs ++ [v])) (c' := .lst (ps ++ [p])) hs ha nI ⟨nI, _, upd_same, rp.append (Reps.cons rv Reps.nil)⟩
        exact ⟨a, vs, v, rfl, rfl, z, by rw [rp.length]; exact q.1, q.2 .non w _ x2 k2 (rep_non.mpr rfl)⟩
      · exact q.elim
    · exact q.elim
  · unfold dAppend at q ⊢
    split at q
    · split at q
      · exact ⟨q.1, hq _ _ q.2⟩
      · exact q.elim
    · exact q.elim
def dLPut (d di dv : D) (S : Store) (K : Store → Prop) : Prop := match d, di, dv with
  | .cell n, .p (.int i), .p v => match S[n]? with
    | some (.lst ps) => ∃ j, ixN ps.length i = some j ∧ K (S.set n (.lst (ps.set j v)))
    | _ => False
  | _, _, _ => False
def wLPut (mo mi mv : WE) : WS := fun D r S => mv r S (fun dv S1 => mo r S1 (fun d S2 => mi r S2 (fun di S3 => dLPut d di dv S3 (fun S4 => D.nx r S4)) (D.xc r)) (D.xc r)) (D.xc r)
theorem rs_lput {i value : Expr} {pos' : Pos} {mo mi mv : WE} (ho : RE G X W o mo) (hi : RE G X W i mi) (hv : RE G X W value mv) (hs : swapsWithSole [.Subscript o i pos'] value pos.line X.env = pure false := by rfl) (hw : swappedStores [.Subscript o i pos'] value X.env = pure none := by rfl)
    (h1 : (assignEach [.Subscript o i pos'] X.env).map (·.2) = [assign (.Subscript o i pos') X.env] := by rfl)
    (ha : ∀ v, assign (.Subscript o i pos') X.env v = (do
      let ov ← holding [v] (eval o X.env)
      let iv ← holding [v, ov] (eval i X.env)
      standAt pos'
      holding [v, ov, iv] (setItem ov iv v)
      release [v, ov, iv] []) := by intro _; rfl) : RS G X W (.Assign [.Subscript o i pos'] value pos) (wLPut mo mi mv) := by
  refine ⟨PS.imp (ps_asg hv.pe (pg_sub ho.pe hi.pe set_list ha) hs hw h1) fun D σ H ⟨w, S, ρ, ok, en, q⟩ => ?_, fun D D' r S l q => hv.mono _ _ _ _ _ _ (fun dv S1 q => ho.mono _ _ _ _ _ _ (fun d S2 q => hi.mono _ _ _ _ _ _ (fun di S3 q => ?_) (l.xc r) q) (l.xc r) q) (l.xc r) q⟩
  · refine tM.low hv.mono ok en q fun dv S1 v w1 H1 x1 k1 r1 q1 => ?_
    refine tM.low ho.mono k1 (en.mono x1) (ho.mono _ _ _ _ _ _ (fun _ _ z => z) (fun y S' z => Sx.ext x1 z) q1) fun d S2 x w2 H2 x2 k2 r2 q2 => ?_
    have x12 := x1.trans x2
    refine tM.low hi.mono k2 (en.mono x12) (hi.mono _ _ _ _ _ _ (fun _ _ z => z) (fun y S' z => Sx.ext x12 z) q2) fun di S3 y w3 H3 x3 k3 r3 q3 => ?_
    have x13 := x12.trans x3
    unfold dLPut at q3
    split at q3
    · rename_i n j p
      split at q3
      · rename_i ps hs
        obtain ⟨j', hj, q3⟩ := q3
        obtain ⟨a, rfl, hn⟩ := rep_cell.mp (r2.mono x3)
        obtain ⟨nI, vs, z, rp⟩ := k3.cells n _ a hs hn
        have rv : Rep G w3 v p := (r1.mono x2).mono x3
        obtain ⟨k4, x4⟩ := k3.write (o := .lst (vs.set j' v)) (c' := .lst (ps.set j' p)) hs hn nI ⟨nI, _, upd_same, Reps.set rv j' rp⟩
        refine ⟨a, vs, j, j', rfl, rep_int.mp r3, z, by rw [rp.length]; exact hj, q3 σ w3 _ (x13.trans x4) k4 ((en.mono x13).mono x4)⟩
      · exact q3.elim
    · exact q3.elim
  · unfold dLPut at q ⊢
    split at q
    · split at q
      · obtain ⟨j, hj, q⟩ := q
        exact ⟨j, hj, l.nx _ _ q⟩
      · exact q.elim
    · exact q.elim
end
end RB
namespace RB
open PySem PySem.Spec PyProof.Rows L2
def Bd (G : Glob) (K : PySem.W.Frag) (fd : FuncData) (ps : List Str) (n : Nat) (ks : List Str) (gD : List D → List D → List D) : Prop :=
  ∃ (g : List Value → List Value → List Value) (gV : List V → List V → List V), KBn K fd ps n ks g gV ∧ ∀ w vs zs ds es, RepDs G w vs ds → RepDs G w zs es → RepDs G w (gV vs zs) (gD ds es)
section
variable {G : Glob} {X : Cx} {W : WX} {n k m : Nat} {f Cc : Addr} {fd : FuncData} {ps ks : List Str} {sp : DSp} {gD : List D → List D → List D} {x : Str} {p pos : Pos} {e : Expr} {es : List Expr} {kws : List Keyword} {ma mk : WA} {c : String}
theorem run_mk (C : CxG G X W n) (M : Mk X.K Cc f) (F : FnG G X.prog X.w X.mg X.base k f fd ps sp) (hk : k + 1 ≤ n) {g : List Value → List Value → List Value} {gV : List V → List V → List V} (hb : KBn X.K fd ps (m + 1) ks g gV) {pins : List (Addr × Obj)} {σ : L2.St} {H : Hp} {s : Shared} {Q : VK} {us ws : List Value} {vs zs : List V}
    (J : Inv X pins σ H s) (r : Vals vs us) (rz : Vals zs ws) (l1 : vs.length = m) (l2 : zs.length = ks.length)
    (h : ∀ y dx, H y = none → H dx = none → dx ≠ y → spV G sp (gV (.ref y :: vs) zs) (L2.upd (L2.upd H dx (.own y)) y (.ins Cc dx [])) (fun v H2 => v = .non ∧ Q (.ref y) H2) fun c d H' => W c d σ H') :
    wpAny (model X.prog X.w) X.A (call (.ref Cc) us (ks.zip ws)) (EP X pins σ Q) X.xe s := by
  have hq := h (s.heap.objs.size + 1) s.heap.objs.size (J.hok.fresh (Nat.le_succ _)) (J.hok.fresh (Nat.le_refl _)) (Nat.ne_of_lt (Nat.lt_succ_self _))
  have J2 := Inv.made (C := Cc) J
  have q1 : Vals (V.ref (s.heap.objs.size + 1) :: vs) (Value.ref (s.heap.objs.size + 1) :: us) := .cons rfl r
  have n1 : (Value.ref (s.heap.objs.size + 1) :: us).length = m + 1 := by
    rw [← q1.length, List.length_cons, l1]
  have n2 : ws.length = ks.length := by
    rw [← rz.length, l2]
  have e0 := J2.env0
  rw [C.hK] at e0
  have room := (C.rm.mono hk).make Cc us (ks.zip ws)
  refine wpAny_call (make_map (f := f) J.kIn M.makes M.init (beq_iff_eq.mp M.fn) (codeAny_mono (F.run _ X.stack _ _ ⟨Value.ref (s.heap.objs.size + 1) :: us, ks.zip ws⟩ (g (Value.ref (s.heap.objs.size + 1) :: us) ws) _ _ _ room C.gd (e0.make Cc us (ks.zip ws)) (hb.to _ _ ws J2.kIn n1 n2) (hb.rel q1 rz) hq) fun z s' y => ?_))
  cases z with
  | error er => exact passAt C.tk σ pins _ _ er s' J2 y
  | ok fl =>
    cases fl with
    | ret u =>
      obtain ⟨v, H', J3, rv, ev, q3⟩ := J2.after y
      subst ev
      exact ⟨rv, ⟨V.ref (s.heap.objs.size + 1), H', J3, rfl, q3⟩⟩
    | next => exact y.elim
    | brk => exact y.elim
    | cont => exact y.elim
def dMake (c : String) (sp : DSp) (ds : D → List D) (S : Store) (Q : DK) (E : EK) : Prop :=
  sp (ds (.cell S.length)) (S ++ [.obj c [] []]) (fun d S1 => d = .p .non ∧ match S1[S.length]? with
    | some (.obj c' ns vs) => Q (.p (.obj c' ns vs)) (S1.take S.length)
    | _ => False) (fun y S1 => E y (S1.take S.length))
theorem make_low {w : Wd} {S : Store} {H : Hp} {Q : VK} {E : XK} {y dx : Addr} (nc : G.cels = false) (F : DMon sp) (hc : G.cls c = some Cc) (hi : G.isE c = false) (k0 : Wok G w S H) (ny : H y = none) (nd : H dx = none) (ne : dx ≠ y) {dd : D → List D} {vs : List V} (rv : ∀ w', Ext w H w' (L2.upd (L2.upd H dx (.own y)) y (.ins Cc dx [])) → RepD G w' (.ref y) (.cell S.length) → RepDs G w' vs (dd (.cell S.length)))
    (q : dMake c sp dd S (Qv G w H Q) (Qx G w H E)) : spV G sp vs (L2.upd (L2.upd H dx (.own y)) y (.ins Cc dx [])) (fun v H2 => v = .non ∧ Q (.ref y) H2) E := by
  unfold dMake at q
  obtain ⟨k1, x1⟩ := k0.allocX (o := .own y) nd
  have ny1 : L2.upd H dx (.own y) y = none := by
    rw [upd_ne (Ne.symm ne)]
    exact ny
  have Iy : w.I y = none := k0.freeI ny
  obtain ⟨k2, x2⟩ := k1.allocC (o := .ins Cc dx []) (c := .obj c [] []) ny1 ⟨Iy, hi, Cc, dx, [], hc, upd_same, rfl, Reps.nil⟩
  have x12 := x1.trans x2
  have ry : RepD G ⟨w.I, w.as ++ [y], w.ts⟩ (.ref y) (.cell S.length) := ⟨y, rfl, by
    show (w.as ++ [y])[S.length]? = some y
    rw [← k0.len, List.getElem?_append_right (Nat.le_refl _)]
    simp⟩
  refine ⟨_, S ++ [.obj c [] []], dd (.cell S.length), k2, rv _ x12 ry, F _ _ _ _ _ _ (fun d S1 z v w3 H3 x3 k3 r3 => ?_) (fun z S1 u cl d w3 H3 x3 k3 r3 => ?_) q⟩
  · obtain ⟨rfl, z⟩ := z
    refine ⟨rep_non.mp r3, ?_⟩
    split at z
    · rename_i c' ns vs' hs
      have x13 := x12.trans x3
      have ha : w3.as[S.length]? = some y := by
        obtain ⟨t, ht⟩ := x3.as
        rw [ht, List.getElem?_append_left (by show S.length < (w.as ++ [y]).length; rw [List.length_append, k0.len]; simp)]
        show (w.as ++ [y])[S.length]? = some y
        rw [← k0.len, List.getElem?_append_right (Nat.le_refl _)]
        simp
      obtain ⟨nI, hx, C', dx', fs, g1, g2, g3, g4⟩ := k3.cells _ _ y hs ha
      obtain ⟨k4, x4⟩ := k3.freeze hs ha g2 nI
      obtain ⟨k5, x5⟩ := k0.cut nc (x13.trans x4) k4
      have e5 : (S1.set S.length .dead).take S.length = S1.take S.length := by
        rw [List.take_set_of_le (Nat.le_refl _)]
      rw [e5] at k5
      refine z (.ref y) _ H3 x5 k5 ?_
      show Rep G _ (.ref y) (.obj c' ns vs')
      simp only [Rep]
      exact ⟨y, C', fs, rfl, g1, .inl ⟨hx, dx', upd_same⟩, g3, Reps.down nc (I := ⟨upd w3.I y (.ins C' dx' fs), w3.as, w3.ts⟩) (I' := ⟨upd w3.I y (.ins C' dx' fs), w.as, w.ts⟩) (Same.refl _) (g4.mono x4.I x4.as)⟩
    · exact z.elim
  · obtain ⟨k5, x5⟩ := k0.cut nc (x12.trans x3) k3
    exact u cl d _ H3 x5 k5 (RepX.down nc (w := w3) (w' := ⟨w3.I, w.as, w.ts⟩) rfl r3)
def wMake (c : String) (sp : DSp) (n m : Nat) (gD : List D → List D → List D) (ma mk : WA) : WE := fun r S Q E => ma r S (fun ds S1 => mk r S1 (fun es S2 => ds.length = n ∧ es.length = m ∧ dMake c sp (fun d => gD (d :: ds) es) S2 Q E) E) E
theorem dMake_mono (hs : DMon sp) {c : String} {ds : D → List D} {S : Store} {Q Q' : DK} {E E' : EK} (hq : ∀ d S, Q d S → Q' d S) (hE : ∀ x S, E x S → E' x S) (h : dMake c sp ds S Q E) : dMake c sp ds S Q' E' := by
  unfold dMake at h ⊢
  refine hs _ _ _ _ _ _ (fun d S1 z => ?_) (fun x S1 z => hE _ _ z) h
  obtain ⟨z1, z2⟩ := z
  refine ⟨z1, ?_⟩
  split at z2
  · exact hq _ _ z2
  · exact z2.elim
theorem mon_make (hs : DMon sp) {c : String} {n m : Nat} (ha : MonA ma) (hk : MonA mk) : Mon (wMake c sp n m gD ma mk) := fun r S Q Q' E E' hq hE h =>
  ha _ _ _ _ _ _ (fun ds S1 z => hk _ _ _ _ _ _ (fun es S2 y => ⟨y.1, y.2.1, dMake_mono hs hq hE y.2.2⟩) hE z) hE h
theorem re_makeK (nc : G.cels = false) (C : CxG G X W n) (M : Mk X.K Cc f) (F : FnG G X.prog X.w X.mg X.base k f fd ps sp) (hk : k + 1 ≤ n) (hc : G.cls c = some Cc) (hi : G.isE c = false) (hg : Gl X x) (hm : X.mg x = some (.ref Cc)) (hb : Bd G X.K fd ps (m + 1) ks gD) (ha : RA G X W (e :: es) ma) (hkw : RK G X W kws mk)
    (hall : (backToKw pos (keywordEach kws X.env)).all (·.1.isSome) = true := by rfl) (hks : (backToKw pos (keywordEach kws X.env)).filterMap (·.1) = ks := by rfl) (hdb : (x == ("__debug__" : Str)) = false := by decide) (he : starEach (e :: es) X.env = (false, eval e X.env) :: starEach es X.env := by rfl)
    (hpl : ((backTo pos (starEach (e :: es) X.env)).any (·.1) || (backToKw pos (keywordEach kws X.env)).any (·.1.isNone)) = false := by rfl) : RE G X W (.Call (.Name x p) (e :: es) kws pos) (wMake c sp m ks.length gD ma mk) := by
  obtain ⟨g, gV, hb, hr⟩ := hb
  refine ⟨⟨fun pins s σ H Q J ⟨w, S, r, ok, en, q⟩ => ?_⟩, mon_make F.mono ha.mono hkw.mono⟩
  refine wpAny_Call_Name_kw (ld_glob J hg hm ?_ hdb)
  have h1 : tMa G W ma σ H fun vs H1 => tMa G W mk σ H1 fun zs H2 => vs.length = m ∧ zs.length = ks.length ∧ ∀ y dx, H2 y = none → H2 dx = none → dx ≠ y → spV G sp (gV (.ref y :: vs) zs) (L2.upd (L2.upd H2 dx (.own y)) y (.ins Cc dx [])) (fun v H3 => v = .non ∧ Q (.ref y) H3) fun c d H' => W c d σ H' := by
    refine ⟨w, S, r, ok, en, ha.mono r S _ _ _ _ (fun ds S1 z vs w1 H1 x1 k1 r1 => ?_) (fun _ _ z => z) q⟩
    refine ⟨w1, S1, r, k1, en.mono x1, hkw.mono r S1 _ _ _ _ (fun es' S2 u zs w2 H2 x2 k2 r2 => ?_) (fun _ _ u => u.ext x1) z⟩
    obtain ⟨l1, l2, u⟩ := u
    refine ⟨by rw [r1.length, l1], by rw [r2.length, l2], fun y dx ny nd ne => ?_⟩
    refine make_low nc F.mono hc hi k2 ny nd ne (dd := fun d => gD (d :: ds) es') (fun w' x' ry => hr w' _ _ _ _ ⟨ry, (r1.mono x2).mono x'⟩ (r2.mono x')) (dMake_mono F.mono (fun _ _ v => v.ext (x1.trans x2)) (fun _ _ v => v.ext (x1.trans x2)) u)
  refine PySem.W.callWith_KW (h₀ := X.base) J.ok.mod.kin M.kp hall (thn (ha.pe.run pos pins s σ H _ J h1) fun us s1 ⟨vs, H1, J1, rv, q1⟩ => ?_) hpl he
  refine thn (hkw.pk.run pos pins s1 σ H1 _ J1 q1) fun ws s2 ⟨zs, H2, J2, rz, l1, l2, q2⟩ => ⟨J2.kIn, ?_⟩
  rw [hks]
  exact run_mk C M F hk hb J2 rv rz l1 l2 q2
theorem re_make (nc : G.cels = false) (C : CxG G X W n) (M : Mk X.K Cc f) (F : FnG G X.prog X.w X.mg X.base k f fd ps sp) (hk : k + 1 ≤ n) (hc : G.cls c = some Cc) (hi : G.isE c = false) (hg : Gl X x) (hm : X.mg x = some (.ref Cc)) (hb : Bd G X.K fd ps (m + 1) [] gD) (ha : RA G X W (e :: es) ma)
    (hdb : (x == ("__debug__" : Str)) = false := by decide) (he : starEach (e :: es) X.env = (false, eval e X.env) :: starEach es X.env := by rfl) (hpl : (backTo pos (starEach es X.env)).any (·.1) = false := by rfl) : RE G X W (.Call (.Name x p) (e :: es) [] pos) (wMake c sp m 0 gD ma wNil) := by
  obtain ⟨g, gV, hb, hr⟩ := hb
  refine ⟨⟨fun pins s σ H Q J ⟨w, S, r, ok, en, q⟩ => ?_⟩, mon_make F.mono ha.mono (fun _ _ _ _ _ _ hq _ h => hq _ _ h)⟩
  refine wpAny_Call_Name_kw (ld_glob J hg hm ?_ hdb)
  have h1 : tMa G W ma σ H fun vs H2 => vs.length = m ∧ ∀ y dx, H2 y = none → H2 dx = none → dx ≠ y → spV G sp (gV (.ref y :: vs) []) (L2.upd (L2.upd H2 dx (.own y)) y (.ins Cc dx [])) (fun v H3 => v = .non ∧ Q (.ref y) H3) fun c d H' => W c d σ H' := by
    refine ⟨w, S, r, ok, en, ha.mono r S _ _ _ _ (fun ds S1 z vs w1 H1 x1 k1 r1 => ?_) (fun _ _ z => z) q⟩
    obtain ⟨l1, l2, u⟩ := z
    refine ⟨by rw [r1.length, l1], fun y dx ny nd ne => ?_⟩
    exact make_low nc F.mono hc hi k1 ny nd ne (dd := fun d => gD (d :: ds) []) (fun w' x' ry => hr w' _ _ _ _ ⟨ry, r1.mono x'⟩ trivial) (dMake_mono F.mono (fun _ _ v => v.ext x1) (fun _ _ v => v.ext x1) u)
  refine PySem.W.callWith_K (h₀ := X.base) J.ok.mod.kin M.kp (thn (ha.pe.run pos pins s σ H _ J h1) fun us s1 ⟨vs, H1, J1, rv, l1, q1⟩ => ⟨J1.kIn, ?_⟩) he hpl
  exact run_mk (ks := []) (ws := []) (zs := []) C M F hk hb J1 rv .nil l1 rfl q1
end
end RB
namespace RB
open PySem PySem.Spec PyProof.Rows L2
def fputN (f : Str) : List Str → List Str
  | [] => [f]
  | g :: r => if g = f then g :: r else g :: fputN f r
def fputV (f : Str) (v : P) : List Str → List P → List P
  | g :: r, x :: xs => if g = f then v :: xs else x :: fputV f v r xs
  | _, _ => [v]
theorem putF_ok {G : Glob} {I : Wd} {f : Str} {y : V} {v : P} (hv : Rep G I y v) : ∀ {fs : List (Str × V)} {ds : List P}, Reps G I (fs.map (·.2)) ds → (putF f y fs).map (·.1) = fputN f (fs.map (·.1)) ∧ Reps G I ((putF f y fs).map (·.2)) (fputV f v (fs.map (·.1)) ds)
  | [], ds, r => by
    cases ds with
    | nil => exact ⟨rfl, Reps.cons hv Reps.nil⟩
    | cons d ds =>
      simp only [List.map_nil, Reps] at r
      obtain ⟨_, _, e, _⟩ := r
      cases e
  | (g, x) :: fs, ds, r => by
    cases ds with
    | nil =>
      simp only [List.map_cons, Reps] at r
      cases r
    | cons d ds =>
      simp only [List.map_cons, Reps] at r
      obtain ⟨v1, r1, e, q1, q2⟩ := r
      cases e
      unfold putF
      by_cases h : g = f
      · rw [if_pos h]
        simp only [List.map_cons, fputN, fputV, if_pos h]
        exact ⟨trivial, Reps.cons hv q2⟩
      · rw [if_neg h]
        simp only [List.map_cons, fputN, fputV, if_neg h]
        obtain ⟨i1, i2⟩ := putF_ok hv (fs := fs) q2
        exact ⟨by rw [i1], Reps.cons q1 i2⟩
section
variable {G : Glob} {X : Cx} {W : WX} {n : Nat} {o e value : Expr} {es : List Expr} {pos pos' apos : Pos} {f m : Str} {mo mv : WE} {ma : WA}
def dFSet (cs : List String) (f : Str) (d dv : D) (S : Store) (K : Store → Prop) : Prop := match d, dv with
  | .cell n, .p v => match S[n]? with
    | some (.obj c ns vs) => c ∈ cs ∧ ns.length < 900 ∧ K (S.set n (.obj c (fputN f ns) (fputV f v ns vs)))
    | _ => False
  | _, _ => False
def wFSet (cs : List String) (f : Str) (mo mv : WE) : WS := fun D r S => mv r S (fun dv S1 => mo r S1 (fun d S2 => dFSet cs f d dv S2 (fun S3 => D.nx r S3)) (D.xc r)) (D.xc r)
theorem rs_fset {cs : List String} (hc : ∀ c ∈ cs, ∀ C, G.cls c = some C → Cls X.K C ∧ NoAttr X.K C f) (ho : RE G X W o mo) (hv : RE G X W value mv) (hs : swapsWith value (some (.Attribute o f pos')) pos.line X.env = pure false := by rfl) :
    RS G X W (.Assign [.Attribute o f pos'] value pos) (wFSet cs f mo mv) := by
  refine ⟨PS.imp (ps_fld ho.pe hv.pe hs) fun D σ H ⟨w, S, ρ, ok, en, q⟩ => ?_, fun D D' r S l q => hv.mono _ _ _ _ _ _ (fun dv S1 q => ho.mono _ _ _ _ _ _ (fun d S2 q => ?_) (l.xc r) q) (l.xc r) q⟩
  · refine tM.low hv.mono ok en q fun dv S1 v w1 H1 x1 k1 r1 q1 => ?_
    refine tM.low ho.mono k1 (en.mono x1) (ho.mono _ _ _ _ _ _ (fun _ _ z => z) (fun y S' z => Sx.ext x1 z) q1) fun d S2 x w2 H2 x2 k2 r2 q2 => ?_
    have x12 := x1.trans x2
    unfold dFSet at q2
    split at q2
    · rename_i j p
      split at q2
      · rename_i c ns vs hs2
        obtain ⟨hcs, hl, q2⟩ := q2
        obtain ⟨a, rfl, ha⟩ := r2
        obtain ⟨nI, hx, C, dx, fs, g1, g2, g3, g4⟩ := k2.cells j _ a hs2 ha
        have rv : Rep G w2 v p := r1.mono x2
        obtain ⟨t1, t2⟩ := hc c hcs C g1
        obtain ⟨i1, i2⟩ := putF_ok (f := f) rv (fs := fs) g4
        rw [g3] at i1 i2
        have lf : fs.length = ns.length := by
          rw [← g3, List.length_map]
        obtain ⟨k3, x3⟩ := k2.write (o := .ins C dx (putF f v fs)) (c' := .obj c (fputN f ns) (fputV f p ns vs)) hs2 ha nI ⟨nI, hx, C, dx, _, g1, upd_same, i1, i2⟩
        exact ⟨a, C, dx, fs, rfl, g2, t1, t2, by omega, q2 σ w2 _ (x12.trans x3) k3 ((en.mono x12).mono x3)⟩
      · exact q2.elim
    · exact q2.elim
  · unfold dFSet at q ⊢
    split at q
    · split at q
      · exact ⟨q.1, q.2.1, l.nx _ _ q.2.2⟩
      · exact q.elim
    · exact q.elim
structure MtC (G : Glob) (X : Cx) (n : Nat) (m : Str) (c : String) (sp : DSp) (gD : List D → List D) : Prop where
  isE : G.isE c = false
  mono : DMon sp
  run : ∃ (C g : Addr) (fd : FuncData) (ps : List Str) (k : Nat) (ds : List Value) (dvs : List V), G.cls c = some C ∧ Cls X.K C ∧ Meth X.K C m g ∧ FnG G X.prog X.w X.mg X.base k g fd ps sp ∧ k ≤ n ∧ Binds X.K fd ps ds ∧ Vals dvs ds ∧ ∀ w vs es, RepDs G w vs es → RepDs G w (vs ++ dvs) (gD es)
def wMeth (m : Str) (tab : List (String × DSp × (List D → List D))) (mo : WE) (ma : WA) : WE := fun r S Q E => mo r S (fun d S0 => match objOf S0 d with
  | some (c, ns, _) => m ∉ ns ∧ ∃ q, tab.lookup c = some q ∧ ma r S0 (fun ds S1 => q.1 (q.2 (d :: ds)) S1 Q E) E
  | none => False) E
theorem lookup_mem {α : Type} {c : String} {q : α} : ∀ {tab : List (String × α)}, tab.lookup c = some q → (c, q) ∈ tab
  | [], h => by cases h
  | (c', q') :: t, h => by
    unfold List.lookup at h
    split at h
    · rename_i e
      cases h
      rw [beq_iff_eq.mp e]
      exact List.mem_cons_self
    · exact List.mem_cons_of_mem _ (lookup_mem h)
end
end RB
namespace RB
open PySem PySem.Spec PyProof.Rows L2
def clsStmt (s : Stmt) (j : Nat) : Stmt := match s with
  | .ClassDef _ _ _ b _ _ _ _ _ _ _ => b.getD j (.Pass ⟨0, 0, 0, 0⟩)
  | _ => .Pass ⟨0, 0, 0, 0⟩
def dec (p : Prop) [Decidable p] : Bool := decide p
theorem dec_ok {p : Prop} [Decidable p] (h : dec p = true) : p := of_decide_eq_true h
theorem and2 {a b : Bool} (h : (a && b) = true) : a = true ∧ b = true := by simpa using h
def oexO (K : PySem.W.Frag) (C : Addr) : Bool := match K.lookup C with
  | some ⟨.type "type", _, .cls cd, sl⟩ => (match cd.mro, sl.toList with
    | .ref C' :: bm, [_, _, _, _, some (.builtin i), _] => dec (C' = C) && (dec (i = "ValueError.__new__") && (!cd.hasDel && (cd.hasDict && HandSPX.refsVE bm)))
    | _, _ => false)
  | _ => false
theorem oexO_ok {K : PySem.W.Frag} {C : Addr} (q : oexO K C = true) : ∃ nm qn N bs bm sn sub ab col dd k0 k1 k2 k3 k5, K.lookup C = some (excClassObj nm qn C N bs bm true sn sub ab col dd k0 k1 k2 k3 k5 "ValueError.__new__") ∧ HandSPX.refsVE bm = true := by
  unfold oexO at q
  split at q
  · rename_i dd cd sl ho
    split at q
    · rename_i C' bm k0 k1 k2 k3 i k5 hm hs
      obtain ⟨q1, q⟩ := and2 q
      obtain ⟨q2, q⟩ := and2 q
      obtain ⟨q3, q⟩ := and2 q
      obtain ⟨q4, q5⟩ := and2 q
      have q1 := dec_ok q1
      have q2 := dec_ok q2
      subst q1 q2
      obtain ⟨nm, bs, mro, ns, qn, hd, sn, sub, ab, col, del⟩ := cd
      have q6 : del = false := by simpa using q3
      have q7 : hd = true := q4
      have q8 : mro = .ref C' :: bm := hm
      subst q6
      subst q7
      subst q8
      obtain ⟨ls⟩ := sl
      simp only at hs
      subst hs
      exact ⟨nm, qn, ns, bs, bm, sn, sub, ab, col, dd, k0, k1, k2, k3, k5, ho, q5⟩
    · cases q
  · cases q
def oexB (K : PySem.W.Frag) (C : Addr) : Bool := oexO K C && (dec (PySem.W.findIn K (.ref C) "__setattr__" = some (some (.builtin "object.__setattr__"))) && (dec (PySem.W.subIn K (.ref C) (.type "BaseException") = some true) && (dec (PySem.W.typeIn K (.ref C) = some (.type "type")) && PySem.W.keepIn K (.ref C))))
theorem oexB_ok {K : PySem.W.Frag} {C : Addr} (h : oexB K C = true) : OexC K C := by
  obtain ⟨h1, h⟩ := and2 h
  obtain ⟨h2, h⟩ := and2 h
  obtain ⟨h3, h⟩ := and2 h
  obtain ⟨h4, h5⟩ := and2 h
  exact ⟨oexO_ok h1, dec_ok h2, dec_ok h3, dec_ok h4, h5⟩
def exB (K : PySem.W.Frag) (x : Str) (fs : List Str) : Bool := oexB K (He.ga K x) && (dec (PySem.W.findIn K (.ref (He.ga K x)) "__init__" = some (some (.ref (He.ma K (He.ga K x) "__init__")))) &&
  (dec (PySem.W.typeIn K (.ref (He.ma K (He.ga K x) "__init__")) = some (.type "function")) && fs.all fun f => dec (PySem.W.findIn K (.ref (He.ga K x)) f = some none)))
theorem exB_ok {K : PySem.W.Frag} {x : Str} {fs : List Str} (h : exB K x fs = true) : ExK K (He.ga K x) (He.ma K (He.ga K x) "__init__") fs := by
  obtain ⟨h1, h⟩ := and2 h
  obtain ⟨h2, h⟩ := and2 h
  obtain ⟨h3, h4⟩ := and2 h
  exact ⟨oexB_ok h1, dec_ok h2, dec_ok h3, fun f hf => dec_ok (List.all_eq_true.mp h4 f hf)⟩
section
variable {G : Glob} {X : Cx} {W : WX} {n : Nat}
theorem rs_tryP {body : List Stmt} {h0 : ExceptHandler} {hds : List ExceptHandler} {l : List (List Value × Nat × TS)} {hs : List ((String → Bool) × Nat × WS)} {mb : WS} {pos : Pos} (C : CxG G X W n) (hp : PassesOwn (model X.prog X.w) X.A X.env X.xe) (st : X.stack = X.env :: X.outer) (fr : X.env.frame = some X.env.locals) (nx : X.ex = []) (nd : X.N.Nodup)
    (hb : ∀ (W' : WX) (pn : List (Addr × Obj)) (xe : Value → Shared → Prop), CxG G (X.tr pn xe) W' n → PassesOwn (model X.prog X.w) X.A X.env xe → RSs G (X.tr pn xe) W' body mb) (hh : HdL G X (h0 :: hds) l hs) :
    RS G X W (.Try body (h0 :: hds) [] [] pos) (wTry mb hs) :=
  rs_try C st fr nx nd hb (hb W X.pn X.xe ⟨C.hK, C.tk, C.rm, C.gd, C.calm⟩ hp).mono hh
end
end RB
namespace RB
open PySem PySem.Spec PyProof.Rows L2
section
variable {G : Glob} {X : Cx} {W : WX} {e e2 : Expr} {elts : List Expr} {kk : Nat} {p pos tpos : Pos} {ma : WA} {m : WE}
def pairD (q : P × P) : D := .p (.tup [q.1, q.2])
def zipP : D → D → Option (List D)
  | .p (.lst xs), .p (.lst ys) => some ((xs.zip ys).map pairD)
  | .p (.tup xs), .p (.tup ys) => some ((xs.zip ys).map pairD)
  | _, _ => none
def wZip (ma : WA) : WA := fun r S Q E => ma r S (fun ds S1 => match ds with
  | [d1, d2] => match zipP d1 d2 with
    | some ds => Q ds S1
    | none => False
  | _ => False) E
theorem zip_yld {w : Wd} {xs ys : List P} {vs us : List V} (r1 : Reps G w vs xs) (r2 : Reps G w us ys) {i : Nat} {H H' : Hp} {v : V} {T : Addr} {x y : V} (hi : i < ((xs.zip ys).map pairD).length) (e1 : v = .ref T) (e2 : H T = none) (e3 : H' = L2.upd H T (.tup [x, y])) (e4 : vs[i]? = some x) (e5 : us[i]? = some y) :
    Yld G w ((xs.zip ys).map pairD) i H v H' := by
  obtain ⟨p1, h1, q1⟩ := r1.get' e4
  obtain ⟨p2, h2, q2⟩ := r2.get' e5
  refine ⟨pairD (p1, p2), ?_, .inr ⟨T, [x, y], [p1, p2], rfl, e1, e2, e3, Reps.cons q1 (Reps.cons q2 Reps.nil)⟩⟩
  have hz : (xs.zip ys)[i]? = some (p1, p2) := List.getElem?_zip_eq_some.mpr ⟨h1, h2⟩
  rw [List.getElem?_map, hz]
  rfl
theorem ri_zip (hK : X.K = G.K) (hg : Gl X "zip") (hm : X.mg "zip" = none) (ha : RA G X W [e, e2] ma) (hs : starEach [e, e2] X.env = (false, eval e X.env) :: starEach [e2] X.env := by rfl) (hpl : (backTo pos (starEach [e2] X.env)).any (·.1) = false := by rfl) :
    RI G X W (.Tuple elts kk tpos) (.Call (.Name "zip" p) [e, e2] [] pos) (wZip ma) := by
  refine ⟨PI.imp (RZ.pi_zipA hg hm ha.pe hs hpl) fun σ H R ⟨w, S, r, ok, en, q⟩ => ?_, fun r S Q Q' E E' hq hE h => ha.mono _ _ _ _ _ _ (fun ds S1 z => ?_) hE h⟩
  · refine ⟨w, S, r, ok, en, ha.mono _ _ _ _ _ _ (fun ds S1 z vs w1 H1 x1 k1 rs => ?_) (fun _ _ z => z) q⟩
    split at z
    · rename_i d1 d2
      obtain ⟨v1, v2, rfl, r1, r2⟩ := rs.two
      split at z
      · rename_i ds hz
        unfold zipP at hz
        split at hz
        · rename_i xs ys
          cases hz
          have r1 : Rep G w1 v1 (.lst xs) := r1
          have r2 : Rep G w1 v2 (.lst ys) := r2
          simp only [Rep] at r1 r2
          obtain ⟨a, vs, rfl, ia, ra⟩ := r1
          obtain ⟨b, us, rfl, ib, rb⟩ := r2
          have sa : ∀ H2, Same w1.I H2 → SqL X.K H2 a vs := fun H2 s => .inl (.inl (s _ _ ia))
          have sb : ∀ H2, Same w1.I H2 → SqL X.K H2 b us := fun H2 s => .inl (.inl (s _ _ ib))
          refine ⟨a, b, vs, us, rfl, .inl ⟨sa _ k1.sub, sb _ k1.sub, z _ w1 H1 x1 k1 ?_⟩⟩
          have W1 := walk_zip (K := X.K) (a := a) (b := b) (xs := vs) (ys := us) (n := ((xs.zip ys).map pairD).length) (by rw [List.length_map, List.length_zip, ra.length, rb.length])
          refine ⟨fun i H2 hi s => W1.goes i H2 hi ⟨sa _ s, sb _ s⟩, fun H2 s => W1.stops H2 ⟨sa _ s, sb _ s⟩, fun i H2 v H3 hi s y => ?_⟩
          obtain ⟨T, x, y', e1, e2, e3, e4, e5⟩ := y
          exact zip_yld ra rb hi e1 e2 e3 (e4 _ (sa _ s)) (e5 _ (sb _ s))
        · rename_i xs ys
          cases hz
          obtain ⟨a, vs, rfl, ia, ra⟩ := rep_tup.mp r1
          obtain ⟨b, us, rfl, ib, rb⟩ := rep_tup.mp r2
          rw [← hK] at ia ib
          have sa : ∀ H2, Same w1.I H2 → SqT X.K H2 a vs := fun H2 s => Same.tup s ia
          have sb : ∀ H2, Same w1.I H2 → SqT X.K H2 b us := fun H2 s => Same.tup s ib
          refine ⟨a, b, vs, us, rfl, .inr ⟨sa _ k1.sub, sb _ k1.sub, z _ w1 H1 x1 k1 ?_⟩⟩
          have ln : ((xs.zip ys).map pairD).length = min vs.length us.length := by
            rw [List.length_map, List.length_zip, ra.length, rb.length]
          refine ⟨fun i H2 hi s => ?_, fun H2 s => ⟨vs, us, sa _ s, sb _ s, by omega⟩, fun i H2 v H3 hi s y => ?_⟩
          · have h1 : i < vs.length := by omega
            have h2 : i < us.length := by omega
            exact ⟨vs, us, vs[i], us[i], sa _ s, sb _ s, List.getElem?_eq_getElem h1, List.getElem?_eq_getElem h2⟩
          · obtain ⟨T, x, y', e1, e2, e3, e4, e5⟩ := y
            exact zip_yld ra rb hi e1 e2 e3 (e4 _ (sa _ s)) (e5 _ (sb _ s))
        · cases hz
      · exact z.elim
    · exact z.elim
  · split at z
    · split at z
      · exact hq _ _ z
      · exact z.elim
    · exact z.elim
def enumP (xs : List P) : List D := ((List.range xs.length).zip xs).map fun q => .p (.tup [.int ((q.1 : Nat) : Int), q.2])
def wEnum (ma : WA) : WA := fun r S Q E => ma r S (fun ds S1 => match ds with
  | [.p (.lst xs)] => Q (enumP xs) S1
  | _ => False) E
end
end RB
namespace RB
open PySem PySem.Spec PyProof.Rows L2
section
variable {G : Glob} {X : Cx} {W : WX} {n : Nat} {o : Expr} {apos pos : Pos} {m : Str} {mo : WE}
end
end RB
namespace RB.F
open PySem PySem.Spec PyProof.Rows L2 RB
inductive O (α : Type) where
  | ok (a : α) (S : Store)
  | ex (x : Exc) (S : Store)
  | bad
def O.bind {α β : Type} (o : O α) (k : α → Store → O β) : O β := match o with
  | .ok a S => k a S
  | .ex x S => .ex x S
  | .bad => .bad
def out {α : Type} (o : O α) (Q : α → Store → Prop) (E : EK) : Prop := match o with
  | .ok a S => Q a S
  | .ex x S => E x S
  | .bad => False
section
variable {α β : Type}
@[simp] theorem bind_ok {a : α} {S : Store} {k : α → Store → O β} : (O.ok a S).bind k = k a S := (rfl)
@[simp] theorem bind_ex {x : Exc} {S : Store} {k : α → Store → O β} : (O.ex x S : O α).bind k = .ex x S := (rfl)
@[simp] theorem bind_bad {k : α → Store → O β} : (O.bad : O α).bind k = .bad := (rfl)
@[simp] theorem out_ok {a : α} {S : Store} {Q : α → Store → Prop} {E : EK} : out (.ok a S) Q E = Q a S := (rfl)
@[simp] theorem out_ex {x : Exc} {S : Store} {Q : α → Store → Prop} {E : EK} : out (.ex x S) Q E = E x S := (rfl)
@[simp] theorem out_bad {Q : α → Store → Prop} {E : EK} : out .bad Q E = False := (rfl)
theorem out_bind {o : O α} {k : α → Store → O β} {Q : β → Store → Prop} {E : EK} : out (o.bind k) Q E = out o (fun a S => out (k a S) Q E) E := by cases o <;> rfl
theorem out_mono {o : O α} {Q Q' : α → Store → Prop} {E E' : EK} (h : out o Q E) (hq : ∀ a S, Q a S → Q' a S) (he : ∀ x S, E x S → E' x S) : out o Q' E' := by
  cases o with
  | ok a S => exact hq _ _ h
  | ex x S => exact he _ _ h
  | bad => exact h.elim
end
abbrev FN (α : Type) := Rho → Store → O α
abbrev FE := FN D
abbrev FT := FN Bool
abbrev FA := FN (List D)
abbrev FO := FN (Option Int)
def lf {α : Type} (f : FN α) : Rho → Store → (α → Store → Prop) → EK → Prop := fun r S Q E => out (f r S) Q E
theorem lf_mon {α : Type} (f : FN α) : ∀ r S (Q Q' : α → Store → Prop) E E', (∀ d S, Q d S → Q' d S) → (∀ x S, E x S → E' x S) → lf f r S Q E → lf f r S Q' E' := fun _ _ _ _ _ _ hq he h => out_mono h hq he
def RE (G : Glob) (X : Cx) (W : WX) (e : Expr) (f : FE) : Prop := RB.RE G X W e (lf f)
def RT (G : Glob) (X : Cx) (W : WX) (e : Expr) (f : FT) : Prop := RB.RT G X W e (lf f)
def RW (G : Glob) (X : Cx) (W : WX) (e : Expr) (f : FT) : Prop := RB.RW G X W e (lf f)
def RA (G : Glob) (X : Cx) (W : WX) (e : List Expr) (f : FA) : Prop := RB.RA G X W e (lf f)
def RK (G : Glob) (X : Cx) (W : WX) (e : List Keyword) (f : FA) : Prop := RB.RK G X W e (lf f)
def RO (G : Glob) (X : Cx) (W : WX) (e : Option Expr) (f : FO) : Prop := RB.RO G X W e (lf f)
def RI (G : Glob) (X : Cx) (W : WX) (tg iter : Expr) (f : FA) : Prop := RB.RI G X W tg iter (lf f)
def RTs (G : Glob) (X : Cx) (W : WX) (e : List Expr) (f : FT) : Prop := RB.RTs G X W e (lf f)
section
variable {G : Glob} {X : Cx} {W : WX} {e a b c : Expr} {pos : Pos}
theorem RE.of {m : WE} {f : FE} (h : RB.RE G X W e m) (i : ∀ r S Q E, out (f r S) Q E → m r S Q E) : RE G X W e f :=
  ⟨PE.imp h.pe fun σ H Q ⟨w, S, r, ok, en, q⟩ => ⟨w, S, r, ok, en, i _ _ _ _ q⟩, lf_mon f⟩
theorem RT.of {m : WT} {f : FT} (h : RB.RT G X W e m) (i : ∀ r S Q E, out (f r S) Q E → m r S Q E) : RT G X W e f :=
  ⟨PT.imp h.pe fun σ H Q ⟨w, S, r, ok, en, q⟩ => ⟨w, S, r, ok, en, i _ _ _ _ q⟩, lf_mon f⟩
theorem RW.of {m : WT} {f : FT} (h : RB.RW G X W e m) (i : ∀ r S Q E, out (f r S) Q E → m r S Q E) : RW G X W e f :=
  ⟨PW.imp h.pw fun σ H Q ⟨w, S, r, ok, en, q⟩ => ⟨w, S, r, ok, en, i _ _ _ _ q⟩, lf_mon f⟩
theorem RA.of {es : List Expr} {m : WA} {f : FA} (h : RB.RA G X W es m) (i : ∀ r S Q E, out (f r S) Q E → m r S Q E) : RA G X W es f :=
  ⟨PA.imp h.pe fun σ H Q ⟨w, S, r, ok, en, q⟩ => ⟨w, S, r, ok, en, i _ _ _ _ q⟩, lf_mon f⟩
theorem RK.of {es : List Keyword} {m : WA} {f : FA} (h : RB.RK G X W es m) (i : ∀ r S Q E, out (f r S) Q E → m r S Q E) : RK G X W es f :=
  ⟨PK.imp h.pk fun σ H Q ⟨w, S, r, ok, en, q⟩ => ⟨w, S, r, ok, en, i _ _ _ _ q⟩, lf_mon f⟩
theorem RO.of {es : Option Expr} {m : WO} {f : FO} (h : RB.RO G X W es m) (i : ∀ r S Q E, out (f r S) Q E → m r S Q E) : RO G X W es f :=
  ⟨PO.imp h.pe fun σ H Q ⟨w, S, r, ok, en, q⟩ => ⟨w, S, r, ok, en, i _ _ _ _ q⟩, lf_mon f⟩
theorem RI.of {tg iter : Expr} {m : WA} {f : FA} (h : RB.RI G X W tg iter m) (i : ∀ r S Q E, out (f r S) Q E → m r S Q E) : RI G X W tg iter f :=
  ⟨PI.imp h.pi fun σ H Q ⟨w, S, r, ok, en, q⟩ => ⟨w, S, r, ok, en, i _ _ _ _ q⟩, lf_mon f⟩
theorem RTs.of {es : List Expr} {m : WT} {f : FT} (h : RB.RTs G X W es m) (i : ∀ r S Q E, out (f r S) Q E → m r S Q E) : RTs G X W es f :=
  ⟨PTs.imp h.pts fun σ H Q ⟨w, S, r, ok, en, q⟩ => ⟨w, S, r, ok, en, i _ _ _ _ q⟩, lf_mon f⟩
def wC (d : D) (_ : Rho) (S : Store) : O D := .ok d S
def wVar (i : Nat) (r : Rho) (S : Store) : O D := match r[i]? with
  | some (some d) => .ok d S
  | _ => .bad
theorem re_int {i j pos} : RE G X W (.Constant (.int i) j pos) (wC (.p (.int i))) := RE.of RB.re_int fun _ _ _ _ h => h
theorem re_bl {i j pos} : RE G X W (.Constant (.bool i) j pos) (wC (.p (.bl i))) := RE.of RB.re_bl fun _ _ _ _ h => h
theorem re_str {i j pos} : RE G X W (.Constant (.str i) j pos) (wC (.p (.str i))) := RE.of RB.re_str fun _ _ _ _ h => h
theorem re_non {j pos} : RE G X W (.Constant .none j pos) (wC (.p .non)) := RE.of RB.re_non fun _ _ _ _ h => h
theorem re_gint {x : Str} {i : Int} {t : Tok} (hg : Gl X x) (hm : X.mg x = some (.int i t)) (hd : (x == ("__debug__" : Str)) = false := by decide) : RE G X W (.Name x pos) (wC (.p (.int i))) := RE.of (RB.re_gint hg hm hd) fun _ _ _ _ h => h
theorem re_gstr {x z : Str} {t : Tok} (hg : Gl X x) (hm : X.mg x = some (.str z t)) (hd : (x == ("__debug__" : Str)) = false := by decide) : RE G X W (.Name x pos) (wC (.p (.str z))) := RE.of (RB.re_gstr hg hm hd) fun _ _ _ _ h => h
theorem re_ty {x : Str} {n : String} (hg : Gl X x) (hm : X.mg x = none) (hv : bootBuiltins x = some (.type n)) (hn : x ≠ "__name__" := by decide) (hd : (x == ("__debug__" : Str)) = false := by decide) : RE G X W (.Name x pos) (wC (.p (.ty n))) :=
  RE.of (RB.re_ty hg hm hv hn hd) fun _ _ _ _ h => h
theorem re_var (i : Nat) {x : Str} {pos : Pos} (hN : X.N[i]? = some x := by rfl) (hv : Vis X.env.scope x := by first | exact Or.inl rfl | exact Or.inr (Or.inl rfl) | exact Or.inr (Or.inr rfl)) (hd : (x == ("__debug__" : Str)) = false := by decide)
    (hcd : (x == ("__classdict__" : Str)) = false := by decide) : RE G X W (.Name x pos) (wVar i) := RE.of (RB.re_var i hN hv hd hcd) fun r S Q E h => by
  unfold wVar at h
  unfold RB.wVar
  split at h
  · rename_i e
    try rw [e]
    exact h
  · exact h.elim
abbrev P2 := D → D → Store → O D
abbrev Sim2 (p : P2) (d : D → D → Store → DK → Prop) : Prop := ∀ d1 d2 S Q E, out (p d1 d2 S) Q E → d d1 d2 S Q
structure OpL (G : Glob) (X : Cx) (g : Value → Value → Sem Value) (p : P2) : Prop where
  ex : ∃ d, RB.OpL G X g d ∧ Sim2 p d
structure IxL (G : Glob) (X : Cx) (p : P2) : Prop where
  ex : ∃ d, RB.IxL G X d ∧ Sim2 p d
structure UnL (G : Glob) (X : Cx) (g : Value → Sem Value) (p : D → Store → O D) : Prop where
  ex : ∃ d, RB.UnL G X g d ∧ ∀ d1 S Q E, out (p d1 S) Q E → d d1 S Q
structure CallL (G : Glob) (X : Cx) (g : Value) (p : List D → Store → O D) : Prop where
  ex : ∃ d, RB.CallL G X g d ∧ ∀ ds S Q E, out (p ds S) Q E → d ds S Q
def wBin (p : P2) (f1 f2 : FE) (r : Rho) (S : Store) : O D := (f1 r S).bind fun d1 S1 => (f2 r S1).bind fun d2 S2 => p d1 d2 S2
theorem bin_in {p : P2} {d : D → D → Store → DK → Prop} (s : Sim2 p d) {f1 f2 : FE} {r : Rho} {S : Store} {Q : DK} {E : EK} (h : out (wBin p f1 f2 r S) Q E) : RB.wBin d (lf f1) (lf f2) r S Q E := by
  unfold wBin at h
  rw [out_bind] at h
  refine out_mono h (fun d1 S1 h => ?_) fun _ _ h => h
  rw [out_bind] at h
  exact out_mono h (fun d2 S2 h => s _ _ _ _ _ h) fun _ _ h => h
theorem re_bin {op : Operator} {p : P2} (ho : OpL G X (binaryOp op) p) {f1 f2 : FE} (ha : RE G X W a f1) (hb : RE G X W b f2) : RE G X W (.BinOp a op b pos) (wBin p f1 f2) := by
  obtain ⟨d, o, s⟩ := ho.ex
  exact RE.of (RB.re_bin o ha hb) fun r S Q E h => bin_in s h
theorem re_cmp {op : CmpOp} {p : P2} (ho : OpL G X (compareOp op) p) {f1 f2 : FE} (ha : RE G X W a f1) (hb : RE G X W b f2) (hm : behindInMarks op b = false) : RE G X W (.Compare a [op] [b] pos) (wBin p f1 f2) := by
  obtain ⟨d, o, s⟩ := ho.ex
  exact RE.of (RB.re_cmp o ha hb hm) fun r S Q E h => bin_in s h
theorem re_ix {p : P2} (ho : IxL G X p) {f1 f2 : FE} (ha : RE G X W a f1) (hb : RE G X W b f2) (hs : PlainIx b := by intro _ _; rfl) : RE G X W (.Subscript a b pos) (wBin p f1 f2) := by
  obtain ⟨d, o, s⟩ := ho.ex
  exact RE.of (RB.re_ix o ha hb hs) fun r S Q E h => bin_in s h
def wUn (p : D → Store → O D) (f : FE) (r : Rho) (S : Store) : O D := (f r S).bind p
theorem re_un {op : UnaryOp} {p : D → Store → O D} (ho : UnL G X (unaryOp op) p) {f : FE} (ha : RE G X W a f) : RE G X W (.UnaryOp op a pos) (wUn p f) := by
  obtain ⟨d, o, s⟩ := ho.ex
  refine RE.of (RB.re_un o ha) fun r S Q E h => ?_
  unfold wUn at h
  rw [out_bind] at h
  exact out_mono h (fun d1 S1 h => s _ _ _ _ h) fun _ _ h => h
def wNil (_ : Rho) (S : Store) : O (List D) := .ok [] S
def wCons (f : FE) (t : FA) (r : Rho) (S : Store) : O (List D) := (f r S).bind fun d S1 => (t r S1).bind fun ds S2 => .ok (d :: ds) S2
theorem ra_nil : RA G X W [] wNil := RA.of RB.ra_nil fun _ _ _ _ h => h
theorem cons_in {f : FE} {t : FA} {r : Rho} {S : Store} {Q : List D → Store → Prop} {E : EK} (h : out (wCons f t r S) Q E) : RB.wCons (lf f) (lf t) r S Q E := by
  unfold wCons at h
  rw [out_bind] at h
  refine out_mono h (fun d1 S1 h => ?_) fun _ _ h => h
  rw [out_bind] at h
  exact out_mono h (fun d2 S2 h => h) fun _ _ h => h
theorem ra_cons {f : FE} {t : FA} {es : List Expr} (ha : RE G X W e f) (hr : RA G X W es t) (hs : starEach (e :: es) X.env = (false, eval e X.env) :: starEach es X.env := by rfl) : RA G X W (e :: es) (wCons f t) :=
  RA.of (RB.ra_cons ha hr hs) fun r S Q E h => cons_in h
theorem rk_nil : RK G X W [] wNil := RK.of RB.rk_nil fun _ _ _ _ h => h
theorem rk_cons {nm : Option Str} {kpos : Pos} {kws : List Keyword} {f : FE} {t : FA} (ha : RE G X W e f) (hr : RK G X W kws t) : RK G X W (⟨nm, e, kpos⟩ :: kws) (wCons f t) :=
  RK.of (RB.rk_cons ha hr) fun r S Q E h => cons_in h
def wCB (p : List D → Store → O D) (f : FA) (r : Rho) (S : Store) : O D := (f r S).bind p
theorem cb_in {p : List D → Store → O D} {d : List D → Store → DK → Prop} (s : ∀ ds S Q E, out (p ds S) Q E → d ds S Q) {f : FA} {r : Rho} {S : Store} {Q : DK} {E : EK} (h : out (wCB p f r S) Q E) : RB.wCB d (lf f) r S Q E := by
  unfold wCB at h
  rw [out_bind] at h
  exact out_mono h (fun d1 S1 h => s _ _ _ _ h) fun _ _ h => h
theorem re_callB {x : Str} {p pos : Pos} {es : List Expr} {id : String} {q : List D → Store → O D} {f : FA} (hc : CallL G X (.builtin id) q) (hg : Gl X x) (hm : X.mg x = none) (hv : bootBuiltins x = some (.builtin id)) (ha : RA G X W (e :: es) f) (hn : x ≠ "__name__" := by decide) (hdb : (x == ("__debug__" : Str)) = false := by decide)
    (he : starEach (e :: es) X.env = (false, eval e X.env) :: starEach es X.env := by rfl) (hpl : (backTo pos (starEach es X.env)).any (·.1) = false := by rfl) : RE G X W (.Call (.Name x p) (e :: es) [] pos) (wCB q f) := by
  obtain ⟨d, o, s⟩ := hc.ex
  exact RE.of (RB.re_callB o hg hm hv ha hn hdb he hpl) fun r S Q E h => cb_in s h
theorem re_callTy {x : Str} {p pos : Pos} {es : List Expr} {T : String} {q : List D → Store → O D} {f : FA} (hc : CallL G X (.type T) q) (hg : Gl X x) (hm : X.mg x = none) (hv : bootBuiltins x = some (.type T)) (ha : RA G X W (e :: es) f) (hn : x ≠ "__name__" := by decide) (hdb : (x == ("__debug__" : Str)) = false := by decide)
    (he : starEach (e :: es) X.env = (false, eval e X.env) :: starEach es X.env := by rfl) (hpl : (backTo pos (starEach es X.env)).any (·.1) = false := by rfl) : RE G X W (.Call (.Name x p) (e :: es) [] pos) (wCB q f) := by
  obtain ⟨d, o, s⟩ := hc.ex
  exact RE.of (RB.re_callTy o hg hm hv ha hn hdb he hpl) fun r S Q E h => cb_in s h
def chk (b : Bool) (d : D) (S : Store) : O D := match b with
  | true => .ok d S
  | false => .bad
@[simp] theorem chk_true {d : D} {S : Store} : chk true d S = .ok d S := (rfl)
theorem out_chk {b : Bool} {d : D} {S : Store} {Q : DK} {E : EK} (h : out (chk b d S) Q E) : b = true ∧ Q d S := by
  cases b with
  | true => exact ⟨rfl, h⟩
  | false => exact h.elim
def wDisp (mk : List P → P) (f : FA) (r : Rho) (S : Store) : O D := (f r S).bind fun ds S1 => match allP ds with
  | some ps => chk (decide (ps.length ≤ sizeLine)) (.p (mk ps)) S1
  | none => .bad
theorem disp_in {mk : List P → P} {f : FA} {r : Rho} {S : Store} {Q : DK} {E : EK} (h : out (wDisp mk f r S) Q E) : RB.wDisp mk (lf f) r S Q E := by
  unfold wDisp at h
  rw [out_bind] at h
  refine out_mono h (fun ds S1 h => ?_) fun _ _ h => h
  try dsimp only at h ⊢
  split at h
  · rename_i e
    try rw [e]
    have := out_chk h
    exact ⟨of_decide_eq_true this.1, this.2⟩
  · exact h.elim
theorem re_tup {es : List Expr} {k : Nat} {f : FA} (ha : RA G X W es f) : RE G X W (.Tuple es k pos) (wDisp .tup f) := RE.of (RB.re_tup ha) fun r S Q E h => disp_in h
theorem re_lst {es : List Expr} {f : FA} (ha : RA G X W es f) : RE G X W (.List es pos) (wDisp .lst f) := RE.of (RB.re_lst ha) fun r S Q E h => disp_in h
def wNewL (f : FA) (r : Rho) (S : Store) : O D := (f r S).bind fun ds S1 => match allP ds with
  | some ps => chk (decide (ps.length ≤ sizeLine)) (.cell S1.length) (S1 ++ [.lst ps])
  | none => .bad
theorem re_newL {es : List Expr} {f : FA} (ha : RA G X W es f) : RE G X W (.List es pos) (wNewL f) := RE.of (RB.re_newL ha) fun r S Q E h => by
  unfold wNewL at h
  rw [out_bind] at h
  refine out_mono h (fun ds S1 h => ?_) fun _ _ h => h
  try dsimp only at h ⊢
  split at h
  · rename_i e
    try rw [e]
    have := out_chk h
    exact ⟨of_decide_eq_true this.1, this.2⟩
  · exact h.elim
end
end RB.F
namespace RB.F
open PySem PySem.Spec PyProof.Rows L2 RB
section
variable {G : Glob} {X : Cx} {W : WX} {e a b c : Expr} {pos : Pos}
def dAdd (d1 d2 : D) (S : Store) : O D := match d1, d2 with
  | .p (.int i), .p (.int j) => .ok (.p (.int (i + j))) S
  | .p (.str a), .p (.str b) => chk (decide ((a.length + b.length) ≤ sizeLine)) (.p (.str (a ++ b))) S
  | .p (.tup a), .p (.tup b) => chk (decide ((a.length + b.length) ≤ sizeLine)) (.p (.tup (a ++ b))) S
  | d1, d2 => match asM S d1, asM S d2 with
    | some a, some b => chk (decide ((a.length + b.length) ≤ sizeLine)) (.p (.lst (a ++ b))) S
    | _, _ => .bad
theorem ol_add (hK : X.K = G.K) : OpL G X (binaryOp .Add) dAdd := ⟨_, RB.ol_add hK, fun d1 d2 S Q E h => by
  unfold dAdd at h
  unfold RB.dAdd
  split at h
  · exact h
  · exact ⟨of_decide_eq_true (out_chk h).1, (out_chk h).2⟩
  · exact ⟨of_decide_eq_true (out_chk h).1, (out_chk h).2⟩
  · split at h
    · rename_i n1 n2 n3 _ _ _ _ e1 e2
      have fin := (⟨of_decide_eq_true (out_chk h).1, (out_chk h).2⟩ : _ ∧ _)
      first
      | exact fin
      | (split <;> first
          | exact (n1 _ _ rfl rfl).elim
          | exact (n2 _ _ rfl rfl).elim
          | exact (n3 _ _ rfl rfl).elim
          | (rw [e1, e2]; exact fin))
    · exact h.elim⟩
def dInt (C : Int → Int → Bool) (g : Int → Int → P) (d1 d2 : D) (S : Store) : O D := match d1, d2 with
  | .p (.int i), .p (.int j) => chk (C i j) (.p (g i j)) S
  | _, _ => .bad
theorem ol_intF {g : Value → Value → Sem Value} {C : Int → Int → Prop} {C' : Int → Int → Bool} {f : Int → Int → P} (h : RB.OpL G X g (RB.dInt C f)) (hc : ∀ i j, C' i j = true → C i j) : OpL G X g (dInt C' f) := ⟨_, h, fun d1 d2 S Q E h => by
  unfold dInt at h
  unfold RB.dInt
  split at h
  · exact ⟨hc _ _ (out_chk h).1, (out_chk h).2⟩
  · exact h.elim⟩
abbrev yes2 : Int → Int → Bool := fun _ _ => true
abbrev dSub := dInt yes2 fun i j => .int (i - j)
abbrev dFdiv := dInt (fun _ j => decide (0 < j) && decide (j.natAbs.log2 < 9000)) fun i j => .int (i / j)
abbrev dMod := dInt (fun _ j => decide (0 < j)) fun i j => .int (i % j)
abbrev dPow := dInt (fun i j => decide (0 ≤ j) && (decide (j ≤ 1000000) && decide (i.natAbs < (2 ^ 64)))) fun i j => .int (i ^ j.toNat)
abbrev dLt := dInt yes2 fun i j => .bl (decide (i < j))
abbrev dLe := dInt yes2 fun i j => .bl (decide (i ≤ j))
abbrev dGt := dInt yes2 fun i j => .bl (decide (j < i))
abbrev dGe := dInt yes2 fun i j => .bl (decide (j ≤ i))
abbrev dMin2 := dInt yes2 fun i j => .int (if j < i then j else i)
theorem ol_sub : OpL G X (binaryOp .Sub) dSub := ol_intF RB.ol_sub fun _ _ _ => trivial
theorem ol_fdiv : OpL G X (binaryOp .FloorDiv) dFdiv := ol_intF RB.ol_fdiv fun i j h => by
  simp only [Bool.and_eq_true, decide_eq_true_eq, decide_eq_true_eq] at h
  exact h
theorem ol_mod : OpL G X (binaryOp .Mod) dMod := ol_intF RB.ol_mod fun i j h => of_decide_eq_true h
theorem ol_pow : OpL G X (binaryOp .Pow) dPow := ol_intF RB.ol_pow fun i j h => by
  simp only [Bool.and_eq_true, decide_eq_true_eq, decide_eq_true_eq] at h
  exact h
theorem ol_lt : OpL G X (compareOp .Lt) dLt := ol_intF RB.ol_lt fun _ _ _ => trivial
theorem ol_le : OpL G X (compareOp .LtE) dLe := ol_intF RB.ol_le fun _ _ _ => trivial
theorem ol_gt : OpL G X (compareOp .Gt) dGt := ol_intF RB.ol_gt fun _ _ _ => trivial
theorem ol_ge : OpL G X (compareOp .GtE) dGe := ol_intF RB.ol_ge fun _ _ _ => trivial
def mulOk (i j : Int) : Bool := decide ((i.natAbs.log2 + j.natAbs.log2) < 1000000)
def dMul (d1 d2 : D) (S : Store) : O D := match d1, d2 with
  | .p (.int i), .p (.int j) => chk (mulOk i j) (.p (.int (i * j))) S
  | d1, .p (.int j) => match asM S d1 with
    | some a => chk (decide (0 ≤ j) && (decide (j < 2 ^ 63) && decide ((a.length * j.toNat) ≤ sizeLine))) (.p (.lst (List.replicate j.toNat a).flatten)) S
    | none => .bad
  | _, _ => .bad
theorem ol_mul : OpL G X (binaryOp .Mult) dMul := ⟨_, RB.ol_mul, fun d1 d2 S Q E h => by
  unfold dMul at h
  unfold RB.dMul
  split at h
  · refine ⟨.inr ?_, (out_chk h).2⟩
    have := (out_chk h).1
    unfold mulOk at this
    simp only [decide_eq_true_eq] at this
    exact this
  · split at h
    · rename_i n1 _ _ e1
      have q := out_chk h
      simp only [Bool.and_eq_true, decide_eq_true_eq, decide_eq_true_eq] at q
      first
      | exact ⟨by omega, q.1.2.1, q.1.2.2, q.2⟩
      | (split
         · exact (n1 _ rfl).elim
         · rename_i e2
           cases e2
           try rw [e1]
           exact ⟨by omega, q.1.2.1, q.1.2.2, q.2⟩
         · rename_i n2 n3
           first | exact (n3 _ _ rfl).elim | exact (n2 _ _ rfl).elim | exact (n3 _ rfl).elim | exact (n2 _ rfl).elim | simp_all)
    · exact h.elim
  · exact h.elim⟩
def dNeg (d : D) (S : Store) : O D := match d with
  | .p (.int i) => .ok (.p (.int (-i))) S
  | _ => .bad
theorem ul_neg : UnL G X (unaryOp .USub) dNeg := ⟨_, RB.ul_neg, fun d S Q E h => by
  unfold dNeg at h
  unfold RB.dNeg
  split at h
  · exact h
  · exact h.elim⟩
def dEqv (neg : Bool) (d1 d2 : D) (S : Store) : O D := match pdD S d1, pdD S d2 with
  | some e1, some e2 => chk (SeqAt.shaped e1 && SeqAt.shaped e2) (.p (.bl (if neg then !PyData.eqv e1 e2 else PyData.eqv e1 e2))) S
  | _, _ => .bad
theorem eqv_in (neg : Bool) : Sim2 (dEqv neg) (RB.dEqv neg) := fun d1 d2 S Q E h => by
  unfold dEqv at h
  unfold RB.dEqv
  split at h
  · rename_i e1 e2
    try rw [e1, e2]
    have q := out_chk h
    simp only [Bool.and_eq_true] at q
    exact ⟨q.1.1, q.1.2, q.2⟩
  · exact h.elim
theorem ol_eq (hK : X.K = G.K) (hu : X.A.units + 64 < cLine) : OpL G X (compareOp .Eq) (dEqv false) := ⟨_, RB.ol_eq hK hu, eqv_in _⟩
theorem ol_ne (hK : X.K = G.K) (hu : X.A.units + 64 < cLine) : OpL G X (compareOp .NotEq) (dEqv true) := ⟨_, RB.ol_ne hK hu, eqv_in _⟩
def dIsN (neg : Bool) (d1 d2 : D) (S : Store) : O D := match d2 with
  | .p .non => .ok (.p (.bl (if neg then !isNon d1 else isNon d1))) S
  | .p (.bl b) => match d1 with
    | .p (.bl a) => chk (!neg) (.p (.bl (decide (a = b)))) S
    | _ => .bad
  | _ => .bad
theorem isN_in (neg : Bool) : Sim2 (dIsN neg) (RB.dIsN neg) := fun d1 d2 S Q E h => by
  unfold dIsN at h
  unfold RB.dIsN
  split at h
  · exact h
  · split at h
    · exact ⟨by simpa using (out_chk h).1, (out_chk h).2⟩
    · exact h.elim
  · exact h.elim
theorem ol_isN : OpL G X (compareOp .Is) (dIsN false) := ⟨_, RB.ol_isN, isN_in _⟩
theorem ol_notN : OpL G X (compareOp .IsNot) (dIsN true) := ⟨_, RB.ol_notN, isN_in _⟩
def dInS (neg : Bool) (d1 d2 : D) (S : Store) : O D := match d1, d2 with
  | .p (.str x), .p (.str z) => match x.cps.toList with
    | [n] => .ok (.p (.bl (if neg then !decide (n ∈ z.cps.toList) else decide (n ∈ z.cps.toList)))) S
    | _ => .bad
  | _, _ => .bad
theorem inS_in (neg : Bool) : Sim2 (dInS neg) (RB.dInS neg) := fun d1 d2 S Q E h => by
  unfold dInS at h
  unfold RB.dInS
  split at h
  · split at h
    · rename_i x z _ n e
      refine ⟨n, ?_, h⟩
      cases x with
      | mk cps =>
        have : cps = #[n] := by
          apply Array.ext'
          exact e
        rw [this]
    · exact h.elim
  · exact h.elim
theorem ol_inS : OpL G X (compareOp .In) (dInS false) := ⟨_, RB.ol_inS, inS_in _⟩
def dIx (d1 d2 : D) (S : Store) : O D := match d2 with
  | .p (.int i) => match d1 with
    | .p (.str z) => match atI z.cps.toList i with
      | some c => chk (decide (z.length ≤ sizeLine)) (.p (.str ⟨#[c]⟩)) S
      | none => .bad
    | .p (.tup ds) => match atI ds i with
      | some d => .ok (.p d) S
      | none => .bad
    | d1 => match asL S d1 with
      | some ds => match atI ds i with
        | some d => .ok (.p d) S
        | none => .bad
      | none => .bad
  | _ => .bad
theorem il_ix (hK : X.K = G.K) : IxL G X dIx := ⟨_, RB.il_ix hK, fun d1 d2 S Q E h => by
  unfold dIx at h
  unfold RB.dIx
  split at h
  · split at h
    · split at h
      · rename_i c e
        exact ⟨of_decide_eq_true (out_chk h).1, c, e, (out_chk h).2⟩
      · exact h.elim
    · split at h
      · rename_i c e
        exact ⟨c, e, h⟩
      · exact h.elim
    · split at h
      · rename_i n1 n2 _ _ e1
        split at h
        · rename_i c e
          try dsimp only
          first
          | exact ⟨c, e, h⟩
          | (split <;> first
              | exact (n1 _ rfl).elim
              | exact (n2 _ rfl).elim
              | (rw [e1]; exact ⟨c, e, h⟩))
        · exact h.elim
      · exact h.elim
  · exact h.elim⟩
def wTest (f : FE) (r : Rho) (S : Store) : O Bool := (f r S).bind fun d S1 => match d with
  | .p (.bl b) => .ok b S1
  | _ => .bad
theorem test_in {f : FE} {r : Rho} {S : Store} {Q : Bool → Store → Prop} {E : EK} (h : out (wTest f r S) Q E) : RB.wTest (lf f) r S Q E := by
  unfold wTest at h
  rw [out_bind] at h
  refine out_mono h (fun d S1 h => ?_) fun _ _ h => h
  split at h
  · exact h
  · exact h.elim
theorem rt_val {f : FE} (h : RE G X W e f) (he : ∀ whole, isTrue e X.env whole = (do let v ← whole; standAt e.pos; holding [v] (truthy v)) := by intro _; rfl) : RT G X W e (wTest f) := RT.of (RB.rt_val h he) fun r S Q E h => test_in h
theorem rt_cmp {op : CmpOp} {p : P2} (ho : OpL G X (compareOp op) p) {f1 f2 : FE} (ha : RE G X W a f1) (hb : RE G X W b f2) (hm : behindInMarks op b = false) : RT G X W (.Compare a [op] [b] pos) (wTest (wBin p f1 f2)) := by
  obtain ⟨d, o, s⟩ := ho.ex
  refine RT.of (RB.rt_cmp o ha hb hm) fun r S Q E h => ?_
  unfold RB.wTest
  refine bin_in s (E := E) ?_
  unfold wTest at h
  rw [out_bind] at h
  refine out_mono h (fun d S1 h => ?_) fun _ _ h => h
  split at h
  · exact h
  · exact h.elim
def wAnd (t u : FT) (r : Rho) (S : Store) : O Bool := (t r S).bind fun b S1 => if b = true then u r S1 else .ok false S1
def wOr (t u : FT) (r : Rho) (S : Store) : O Bool := (t r S).bind fun b S1 => if b = true then .ok true S1 else u r S1
def wNot (t : FT) (r : Rho) (S : Store) : O Bool := (t r S).bind fun b S1 => .ok (!b) S1
theorem RW.rt {f : FT} (h : RW G X W e f) : RT G X W e f := RB.RW.rt h
variable {rest : List Expr}
theorem rw_and1 {t : FT} (ha : RT G X W a t) : RW G X W (.BoolOp .And [a] pos) t := RB.rw_and1 ha
theorem rw_or1 {t : FT} (ha : RT G X W a t) : RW G X W (.BoolOp .Or [a] pos) t := RB.rw_or1 ha
theorem rw_and {t u : FT} (ha : RT G X W a t) (hb : RW G X W (.BoolOp .And (b :: rest) pos) u) : RW G X W (.BoolOp .And (a :: b :: rest) pos) (wAnd t u) := RW.of (RB.rw_and ha hb) fun r S Q E h => by
  unfold wAnd at h
  rw [out_bind] at h
  refine out_mono h (fun b S1 h => ?_) fun _ _ h => h
  cases b with
  | true => exact h
  | false => exact h
theorem rw_or {t u : FT} (ha : RT G X W a t) (hb : RW G X W (.BoolOp .Or (b :: rest) pos) u) : RW G X W (.BoolOp .Or (a :: b :: rest) pos) (wOr t u) := RW.of (RB.rw_or ha hb) fun r S Q E h => by
  unfold wOr at h
  rw [out_bind] at h
  refine out_mono h (fun b S1 h => ?_) fun _ _ h => h
  cases b with
  | true => exact h
  | false => exact h
theorem rt_not {t : FT} (ha : RT G X W a t) : RT G X W (.UnaryOp .Not a pos) (wNot t) := RT.of (RB.rt_not ha) fun r S Q E h => by
  unfold wNot at h
  rw [out_bind] at h
  exact h
def wAndV (f1 f2 : FE) (r : Rho) (S : Store) : O D := (f1 r S).bind fun d S1 => match d with
  | .p (.bl true) => f2 r S1
  | .p (.bl false) => .ok (.p (.bl false)) S1
  | _ => .bad
def wOrV (f1 f2 : FE) (r : Rho) (S : Store) : O D := (f1 r S).bind fun d S1 => match d with
  | .p (.bl true) => .ok (.p (.bl true)) S1
  | .p (.bl false) => f2 r S1
  | _ => .bad
theorem re_one {op} {f : FE} (h : RE G X W a f) : RE G X W (.BoolOp op [a] pos) f := RB.re_one h
theorem re_and {f1 f2 : FE} (ha : RE G X W a f1) (hb : RE G X W (.BoolOp .And (b :: rest) pos) f2) : RE G X W (.BoolOp .And (a :: b :: rest) pos) (wAndV f1 f2) := RE.of (RB.re_and ha hb) fun r S Q E h => by
  unfold wAndV at h
  rw [out_bind] at h
  refine out_mono h (fun b S1 h => ?_) fun _ _ h => h
  split at h
  · exact h
  · exact h
  · exact h.elim
theorem re_or {f1 f2 : FE} (ha : RE G X W a f1) (hb : RE G X W (.BoolOp .Or (b :: rest) pos) f2) : RE G X W (.BoolOp .Or (a :: b :: rest) pos) (wOrV f1 f2) := RE.of (RB.re_or ha hb) fun r S Q E h => by
  unfold wOrV at h
  rw [out_bind] at h
  refine out_mono h (fun b S1 h => ?_) fun _ _ h => h
  split at h
  · exact h
  · exact h
  · exact h.elim
def wNotV (f : FE) (r : Rho) (S : Store) : O D := (f r S).bind fun d S1 => match d with
  | .p (.bl b) => .ok (.p (.bl (!b))) S1
  | _ => .bad
theorem re_not {f : FE} (ha : RE G X W a f) : RE G X W (.UnaryOp .Not a pos) (wNotV f) := RE.of (RB.re_not ha) fun r S Q E h => by
  unfold wNotV at h
  rw [out_bind] at h
  refine out_mono h (fun b S1 h => ?_) fun _ _ h => h
  split at h
  · exact h
  · exact h.elim
def wIf (t : FT) (f1 f2 : FE) (r : Rho) (S : Store) : O D := (t r S).bind fun b S1 => if b = true then f1 r S1 else f2 r S1
theorem re_ifx {t : FT} {f1 f2 : FE} (hc : RT G X W c t) (ha : RE G X W a f1) (hb : RE G X W b f2) : RE G X W (.IfExp c a b pos) (wIf t f1 f2) := RE.of (RB.re_ifx hc ha hb) fun r S Q E h => by
  unfold wIf at h
  rw [out_bind] at h
  refine out_mono h (fun b S1 h => ?_) fun _ _ h => h
  cases b with
  | true => exact h
  | false => exact h
def wChain (p q : P2) (f1 f2 f3 : FE) (r : Rho) (S : Store) : O D := (f1 r S).bind fun d1 S1 => (f2 r S1).bind fun d2 S2 => (p d1 d2 S2).bind fun z S3 => match z with
  | .p (.bl true) => (f3 r S3).bind fun d3 S4 => q d2 d3 S4
  | .p (.bl false) => .ok (.p (.bl false)) S3
  | _ => .bad
theorem chain_in {p q : P2} {d d' : D → D → Store → DK → Prop} (s : Sim2 p d) (s' : Sim2 q d') {f1 f2 f3 : FE} {r : Rho} {S : Store} {Q : DK} {E : EK} (h : out (wChain p q f1 f2 f3 r S) Q E) : RB.wChain d d' (lf f1) (lf f2) (lf f3) r S Q E := by
  unfold wChain at h
  rw [out_bind] at h
  refine out_mono h (fun d1 S1 h => ?_) fun _ _ h => h
  rw [out_bind] at h
  refine out_mono h (fun d2 S2 h => ?_) fun _ _ h => h
  rw [out_bind] at h
  refine s _ _ _ _ E (out_mono h (fun z S3 h => ?_) fun _ _ h => h)
  split at h
  · rw [out_bind] at h
    exact out_mono h (fun d3 S4 h => s' _ _ _ _ _ h) fun _ _ h => h
  · exact h
  · exact h.elim
theorem rt_chain {op op' : CmpOp} {p q : P2} (ho : OpL G X (compareOp op) p) (ho' : OpL G X (compareOp op') q) {f1 f2 f3 : FE} (ha : RE G X W a f1) (hb : RE G X W b f2) (hc : RE G X W c f3) (hm : lastMarks [op, op'] [b, c] = false := by with_unfolding_all rfl) :
    RT G X W (.Compare a [op, op'] [b, c] pos) (wTest (wChain p q f1 f2 f3)) := by
  obtain ⟨d, o, s⟩ := ho.ex
  obtain ⟨d', o', s'⟩ := ho'.ex
  refine RT.of (RB.rt_chain o o' ha hb hc hm) fun r S Q E h => ?_
  unfold RB.wTest
  refine chain_in s s' (E := E) ?_
  unfold wTest at h
  rw [out_bind] at h
  refine out_mono h (fun d S1 h => ?_) fun _ _ h => h
  split at h
  · exact h
  · exact h.elim
end
end RB.F
namespace RB.F
open PySem PySem.Spec PyProof.Rows L2 RB
section
variable {G : Glob} {X : Cx} {W : WX} {e a b c : Expr} {pos : Pos}
def wNoP (_ : Rho) (S : Store) : O (Option Int) := .ok none S
def wPart (f : FE) (r : Rho) (S : Store) : O (Option Int) := (f r S).bind fun d S1 => match d with
  | .p (.int i) => .ok (some i) S1
  | _ => .bad
theorem ro_none : RO G X W none wNoP := RO.of RB.ro_none fun _ _ _ _ h => h
theorem ro_some {f : FE} (h : RE G X W e f) : RO G X W (some e) (wPart f) := RO.of (RB.ro_some h) fun r S Q E h => by
  unfold wPart at h
  rw [out_bind] at h
  refine out_mono h (fun d S1 h => ?_) fun _ _ h => h
  split at h
  · exact h
  · exact h.elim
def cutP {α : Type} (ds : List α) (lo hi : Option Int) : List α := (ds.drop (HT.sIx ds.length 0 lo)).take (HT.sIx ds.length ds.length hi - HT.sIx ds.length 0 lo)
def dSl (d : D) (lo hi : Option Int) (S : Store) : O D := match d with
  | .p (.str z) => chk (decide (z.length ≤ sizeLine)) (.p (.str (cutS z lo hi))) S
  | .p (.tup ds) => .ok (.p (.tup (cutP ds lo hi))) S
  | d => match asL S d with
    | some ds => .ok (.p (.lst (cutP ds lo hi))) S
    | none => .bad
def wSl (f : FE) (fl fh : FO) (r : Rho) (S : Store) : O D := (f r S).bind fun d S1 => (fl r S1).bind fun lo S2 => (fh r S2).bind fun hi S3 => dSl d lo hi S3
theorem re_slice (hK : X.K = G.K) {f : FE} {fl fh : FO} {lo hi : Option Expr} {p2 : Pos} (he : RE G X W e f) (hl : RO G X W lo fl) (hh : RO G X W hi fh) : RE G X W (.Subscript e (.Slice lo hi none p2) pos) (wSl f fl fh) := RE.of (RB.re_slice hK he hl hh) fun r S Q E h => by
  unfold wSl at h
  rw [out_bind] at h
  refine out_mono h (fun d S1 h => ?_) fun _ _ h => h
  rw [out_bind] at h
  refine out_mono h (fun lo S2 h => ?_) fun _ _ h => h
  rw [out_bind] at h
  refine out_mono h (fun hi S3 h => ?_) fun _ _ h => h
  unfold dSl at h
  unfold RB.dSl
  split at h
  · exact ⟨of_decide_eq_true (out_chk h).1, (out_chk h).2⟩
  · exact h
  · rename_i n1 n2
    split at h
    · rename_i e1
      first
      | exact h
      | (split <;> first
          | exact (n1 _ rfl).elim
          | exact (n2 _ rfl).elim
          | (rw [e1]; exact h))
    · exact h.elim
def b1 (p : D → Store → O D) (ds : List D) (S : Store) : O D := match ds with
  | [d] => p d S
  | _ => .bad
def b2 (p : P2) (ds : List D) (S : Store) : O D := match ds with
  | [d, d'] => p d d' S
  | _ => .bad
theorem CallL.f1 {g : Value} {d : D → Store → DK → Prop} {p : D → Store → O D} (h : RB.CallL G X g (RB.b1 d)) (s : ∀ d1 S Q E, out (p d1 S) Q E → d d1 S Q) : CallL G X g (b1 p) := ⟨_, h, fun ds S Q E h => by
  unfold b1 at h
  unfold RB.b1
  split at h
  · exact s _ _ _ _ h
  · exact h.elim⟩
theorem CallL.f2 {g : Value} {d : D → D → Store → DK → Prop} {p : P2} (h : RB.CallL G X g (RB.b2 d)) (s : Sim2 p d) : CallL G X g (b2 p) := ⟨_, h, fun ds S Q E h => by
  unfold b2 at h
  unfold RB.b2
  split at h
  · exact s _ _ _ _ _ h
  · exact h.elim⟩
def dLen (d : D) (S : Store) : O D := match d with
  | .p (.str z) => chk (decide (z.length ≤ sizeLine)) (.p (.int z.length)) S
  | .p (.tup ds) => .ok (.p (.int ds.length)) S
  | d => match asL S d with
    | some ds => .ok (.p (.int ds.length)) S
    | none => .bad
theorem cl_len (hK : X.K = G.K) : CallL G X (.builtin "len") (b1 dLen) := CallL.f1 (RB.cl_len hK) fun d S Q E h => by
  unfold dLen at h
  unfold RB.dLen
  split at h
  · exact ⟨of_decide_eq_true (out_chk h).1, (out_chk h).2⟩
  · exact h
  · rename_i n1 n2
    split at h
    · rename_i e1
      first
      | exact h
      | (split <;> first
          | exact (n1 _ rfl).elim
          | exact (n2 _ rfl).elim
          | (rw [e1]; exact h))
    · exact h.elim
def dI1 (g : Int → P) (d : D) (S : Store) : O D := match d with
  | .p (.int i) => .ok (.p (g i)) S
  | _ => .bad
abbrev dAbs := dI1 fun i => .int (if i < 0 then -i else i)
theorem cl_abs : CallL G X (.builtin "abs") (b1 dAbs) := CallL.f1 RB.cl_abs fun d S Q E h => by
  unfold dAbs dI1 at h
  unfold RB.dI1
  split at h
  · exact h
  · exact h.elim
def dToInt (d : D) (S : Store) : O D := match d with
  | .p (.int i) => .ok (.p (.int i)) S
  | .p (.bl b) => .ok (.p (.int (if b then 1 else 0))) S
  | _ => .bad
theorem cl_int : CallL G X (.type "int") (b1 dToInt) := CallL.f1 RB.cl_int fun d S Q E h => by
  unfold dToInt at h
  unfold RB.dToInt
  split at h
  · exact h
  · exact h
  · exact h.elim
theorem int_in {C : Int → Int → Prop} {C' : Int → Int → Bool} {f : Int → Int → P} (hc : ∀ i j, C' i j = true → C i j) : Sim2 (dInt C' f) (RB.dInt C f) := fun d1 d2 S Q E h => by
  unfold dInt at h
  unfold RB.dInt
  split at h
  · exact ⟨hc _ _ (out_chk h).1, (out_chk h).2⟩
  · exact h.elim
theorem cl_min2 (hc : X.calm = true) : CallL G X (.builtin "min") (b2 dMin2) := CallL.f2 (RB.cl_min2 hc) (int_in fun _ _ _ => trivial)
def dQ1 (f : List P → Store → O D) (d : D) (S : Store) : O D := match asQ S d with
  | some ds => f ds S
  | none => .bad
theorem q1_in {f : List P → Store → O D} {g : List P → Store → DK → Prop} (s : ∀ ds S Q E, out (f ds S) Q E → g ds S Q) (d : D) (S : Store) (Q : DK) (E : EK) (h : out (dQ1 f d S) Q E) : RB.dQ1 g d S Q := by
  unfold dQ1 at h
  unfold RB.dQ1
  split at h
  · rename_i e1
    try rw [e1]
    exact s _ _ _ _ h
  · exact h.elim
abbrev dListOf := dQ1 fun ds S => .ok (.p (.lst ds)) S
abbrev dTupleOf := dQ1 fun ds S => .ok (.p (.tup ds)) S
theorem cl_list (hK : X.K = G.K) : CallL G X (.type "list") (b1 dListOf) := CallL.f1 (RB.cl_list hK) (q1_in fun _ _ _ _ h => h)
theorem cl_tuple (hK : X.K = G.K) : CallL G X (.type "tuple") (b1 dTupleOf) := CallL.f1 (RB.cl_tuple hK) (q1_in fun _ _ _ _ h => h)
def dBls (g : List Bool → Bool) (d : D) (S : Store) : O D := match asL S d with
  | some ds => match bls ds with
    | some bs => .ok (.p (.bl (g bs))) S
    | none => .bad
  | none => .bad
abbrev dAll := dBls fun bs => bs.all id
abbrev dAny := dBls fun bs => bs.any id
theorem bls_in {g : List Bool → Bool} (d : D) (S : Store) (Q : DK) (E : EK) (h : out (dBls g d S) Q E) : RB.dBls g d S Q := by
  unfold dBls at h
  unfold RB.dBls
  split at h
  · rename_i e1
    try rw [e1]
    split at h
    · rename_i e2
      try dsimp only
      try rw [e2]
      exact h
    · exact h.elim
  · exact h.elim
theorem cl_all (hK : X.K = G.K) (hc : X.calm = true) : CallL G X (.builtin "all") (b1 dAll) := CallL.f1 (RB.cl_all hK hc) bls_in
theorem cl_any (hK : X.K = G.K) (hc : X.calm = true) : CallL G X (.builtin "any") (b1 dAny) := CallL.f1 (RB.cl_any hK hc) bls_in
def dSum (d : D) (S : Store) : O D := match asL S d with
  | some ds => match intsP ds with
    | some bs => .ok (.p (.int bs.sum)) S
    | none => .bad
  | none => .bad
theorem cl_sum (hK : X.K = G.K) (hc : X.calm = true) : CallL G X (.builtin "sum") (b1 dSum) := CallL.f1 (RB.cl_sum hK hc) fun d S Q E h => by
  unfold dSum at h
  unfold RB.dSum
  split at h
  · rename_i e1
    try rw [e1]
    split at h
    · rename_i e2
      try dsimp only
      try rw [e2]
      exact h
    · exact h.elim
  · exact h.elim
def dJoin (d1 d2 : D) (S : Store) : O D := match d1, asQ S d2 with
  | .p (.str a), some ds => match strsP ds with
    | some ys => chk (decide (((ys.map (·.length)).sum + ys.length * a.length) ≤ 16777216)) (.p (.str (Txt.join a ys))) S
    | none => .bad
  | _, _ => .bad
def wJoin (f1 f2 : FE) (r : Rho) (S : Store) : O D := (f1 r S).bind fun d1 S1 => match d1 with
  | .p (.str a) => (f2 r S1).bind fun d2 S2 => dJoin (.p (.str a)) d2 S2
  | _ => .bad
theorem join_in {f1 f2 : FE} {r : Rho} {S : Store} {Q : DK} {E : EK} (h : out (wJoin f1 f2 r S) Q E) : RB.wJoin (lf f1) (lf f2) r S Q E := by
  unfold wJoin at h
  rw [out_bind] at h
  refine out_mono h (fun d S1 h => ?_) fun _ _ h => h
  split at h
  · rw [out_bind] at h
    refine out_mono h (fun d S1 h => ?_) fun _ _ h => h
    unfold dJoin at h
    unfold RB.dJoin
    split at h
    · rename_i e0 e1
      cases e0
      try rw [e1]
      split at h
      · rename_i e2
        try dsimp only
        try rw [e2]
        exact ⟨of_decide_eq_true (out_chk h).1, (out_chk h).2⟩
      · exact h.elim
    · exact h.elim
  · exact h.elim
theorem re_join (hK : X.K = G.K) {f1 f2 : FE} {apos pos : Pos} {o : Expr} (ho : RE G X W o f1) (he : RE G X W e f2) (hs : starEach [e] X.env = [(false, eval e X.env)] := by rfl) (hbase : attributeBase o "join" X.env (eval o X.env) = eval o X.env := by rfl) (hline : (apos.endLine == pos.line) = true := by rfl) :
    RE G X W (.Call (.Attribute o "join" apos) [e] [] pos) (wJoin f1 f2) := RE.of (RB.re_join hK ho he hs hbase hline) fun r S Q E h => join_in h
def dIsi (d d' : D) (S : Store) : O D := match d' with
  | .p (.ty T) => match tyS S d with
    | some t => chk (["bool", "int", "str", "tuple", "list", "dict"].contains T) (.p (.bl (isB t T))) S
    | none => .bad
  | _ => .bad
theorem cl_isi (hK : X.K = G.K) : CallL G X (.builtin "isinstance") (b2 dIsi) := CallL.f2 (RB.cl_isi hK) fun d1 d2 S Q E h => by
  unfold dIsi at h
  unfold RB.dIsi
  split at h
  · split at h
    · rename_i e1
      refine ⟨List.contains_iff_mem.mp (out_chk h).1, ?_⟩
      try rw [e1]
      exact (out_chk h).2
    · exact h.elim
  · exact h.elim
def wIsi2 (T T' : String) (f : FE) (r : Rho) (S : Store) : O D := (f r S).bind fun d S1 => match tyS S1 d with
  | some t => .ok (.p (.bl (isB t T || isB t T'))) S1
  | none => .bad
theorem isi2_in {T T' : String} {f : FE} {r : Rho} {S : Store} {Q : DK} {E : EK} (h : out (wIsi2 T T' f r S) Q E) : RB.wIsi2 T T' (lf f) r S Q E := by
  unfold wIsi2 at h
  rw [out_bind] at h
  refine out_mono h (fun d S1 h => ?_) fun _ _ h => h
  try dsimp only at h ⊢
  split at h
  · rename_i e1
    try rw [e1]
    exact h
  · exact h.elim
theorem re_isi2 {p pos p1 p2 p3 : Pos} {k3 : Nat} {T T' : String} {x x' : Str} {f : FE} (hK : X.K = G.K) (he : RE G X W e f) (hg : Gl X "isinstance") (hm : X.mg "isinstance" = none) (hg1 : Gl X x) (hm1 : X.mg x = none) (hv1 : bootBuiltins x = some (.type T)) (hg2 : Gl X x') (hm2 : X.mg x' = none) (hv2 : bootBuiltins x' = some (.type T'))
    (hT : T ∈ ["bool", "int", "str", "tuple", "list", "dict"] := by decide) (hT' : T' ∈ ["bool", "int", "str", "tuple", "list", "dict"] := by decide) (hn1 : x ≠ "__name__" := by decide) (hd1 : (x == ("__debug__" : Str)) = false := by decide) (hn2 : x' ≠ "__name__" := by decide) (hd2 : (x' == ("__debug__" : Str)) = false := by decide)
    (hs : starEach [e, .Tuple [.Name x p1, .Name x' p2] k3 p3] X.env = (false, eval e X.env) :: starEach [.Tuple [.Name x p1, .Name x' p2] k3 p3] X.env := by rfl) :
    RE G X W (.Call (.Name "isinstance" p) [e, .Tuple [.Name x p1, .Name x' p2] k3 p3] [] pos) (wIsi2 T T' f) := RE.of (RB.re_isi2 hK he hg hm hg1 hm1 hv1 hg2 hm2 hv2 hT hT' hn1 hd1 hn2 hd2 hs) fun r S Q E h => isi2_in h
def dRepr (d : D) (S : Store) : O D := match pxD S d with
  | some e => chk (e.showable && (decide (e.depth ≤ 60) && decide (e.shown.length ≤ sizeLine))) (.p (.str e.shown)) S
  | none => .bad
theorem cl_repr (hK : X.K = G.K) (hy : KSys X.K) (hg : X.A.guards = some []) (hu : X.A.units + 64 < cLine) : CallL G X (.builtin "repr") (b1 dRepr) := CallL.f1 (RB.cl_repr hK hy hg hu) fun d S Q E h => by
  unfold dRepr at h
  unfold RB.dRepr
  split at h
  · rename_i e1
    try rw [e1]
    have q := out_chk h
    simp only [Bool.and_eq_true, decide_eq_true_eq] at q
    exact ⟨q.1.1, q.1.2.1, q.1.2.2, q.2⟩
  · exact h.elim
def dDGet (d d' : D) (S : Store) : O D := match keyOf d' with
  | some k => match d with
    | .p (.dK ks vs) => match klook ks vs k with
      | some p => .ok (.p p) S
      | none => .bad
    | .p (.fK ks vs) => match klook ks vs k with
      | some p => .ok (.p p) S
      | none => .bad
    | .cell n => match S[n]? with
      | some (.dK ks vs) => match klook ks vs k with
        | some p => .ok (.p p) S
        | none => .bad
      | _ => .bad
    | _ => .bad
  | none => .bad
theorem re_dget {f1 f2 : FE} (hu : X.A.units + 1 < cLine) (ha : RE G X W a f1) (hb : RE G X W b f2) (hs : NoSl b := by intro _ _; rfl) : RE G X W (.Subscript a b pos) (wBin dDGet f1 f2) := RE.of (RB.re_dget hu ha hb hs) fun r S Q E h => bin_in (d := RB.dDGet) (fun d1 d2 S Q E h => by
  unfold dDGet at h
  unfold RB.dDGet
  split at h
  · rename_i e1
    try rw [e1]
    try dsimp only
    split at h
    · split at h
      · rename_i e2
        try dsimp only
        try rw [e2]
        exact h
      · exact h.elim
    · split at h
      · rename_i e2
        try dsimp only
        try rw [e2]
        exact h
      · exact h.elim
    · split at h
      · rename_i e2
        try dsimp only
        try rw [e2]
        split at h
        · rename_i e3
          try dsimp only
          try rw [e3]
          exact h
        · exact h.elim
      · exact h.elim
    · exact h.elim
  · exact h.elim) h
def wDNew (_ : Rho) (S : Store) : O D := .ok (.p (.dK [] [])) S
theorem re_dnew : RE G X W (.Dict [] [] pos) wDNew := RE.of RB.re_dnew fun _ _ _ _ h => h
def wPairs : List (FE × FE) → Rho → Store → O (List (D × D))
  | [], _, S => .ok [] S
  | (k, v) :: ms, r, S => (k r S).bind fun dk S1 => (v r S1).bind fun dv S2 => (wPairs ms r S2).bind fun ps S3 => .ok ((dk, dv) :: ps) S3
abbrev lf2 (ms : List (FE × FE)) : List (WE × WE) := ms.map fun p => (lf p.1, lf p.2)
theorem pairs_in : ∀ {ms : List (FE × FE)} {r : Rho} {S : Store} {Q : List (D × D) → Store → Prop} {E : EK}, out (wPairs ms r S) Q E → RB.wPairs (lf2 ms) r S Q E
  | [], _, _, _, _, h => h
  | (k, v) :: ms, r, S, Q, E, h => by
    unfold wPairs at h
    rw [out_bind] at h
    refine out_mono h (fun d S1 h => ?_) fun _ _ h => h
    rw [out_bind] at h
    refine out_mono h (fun d S1 h => ?_) fun _ _ h => h
    rw [out_bind] at h
    exact pairs_in h
def RPs (G : Glob) (X : Cx) (W : WX) (pos : Pos) (keys : List (Option Expr)) (values : List Expr) (ms : List (FE × FE)) : Prop := RB.RPs G X W pos keys values (lf2 ms)
theorem rp_nil : RPs G X W pos [] [] [] := RB.rp_nil
theorem rp_cons {k v : Expr} {ks : List (Option Expr)} {vs : List Expr} {mk mv : FE} {ms : List (FE × FE)} (hk : RE G X W k mk) (hv : RE G X W v mv) (hr : RPs G X W pos ks vs ms) : RPs G X W pos (some k :: ks) (v :: vs) ((mk, mv) :: ms) := RB.rp_cons hk hv hr
def nodupB : List Key → Bool
  | [] => true
  | k :: ks => !ks.any (fun k' => decide (k' = k)) && nodupB ks
theorem nodupB_ok : ∀ {ks : List Key}, nodupB ks = true → ks.Nodup
  | [], _ => List.nodup_nil
  | k :: ks, h => by
    unfold nodupB at h
    simp only [Bool.and_eq_true, Bool.not_eq_true', List.any_eq_false, decide_eq_true_eq] at h
    exact List.nodup_cons.mpr ⟨fun m => h.1 _ m rfl, nodupB_ok h.2⟩
def wDict (fin : List Key → List P → Store → O D) (ms : List (FE × FE)) (r : Rho) (S : Store) : O D := (wPairs ms r S).bind fun ps S1 => match kvsOf ps with
  | some (ks, vs) => if nodupB ks && decide (ks.length ≤ 15) then fin ks vs S1 else .bad
  | none => .bad
theorem dict_in {fin : List Key → List P → Store → O D} {fin' : List Key → List P → Store → DK → Prop} (s : ∀ ks vs S Q E, out (fin ks vs S) Q E → fin' ks vs S Q) {ms : List (FE × FE)} {r : Rho} {S : Store} {Q : DK} {E : EK} (h : out (wDict fin ms r S) Q E) : RB.wDict fin' (lf2 ms) r S Q E := by
  unfold wDict at h
  rw [out_bind] at h
  unfold RB.wDict
  refine pairs_in (out_mono h (fun ps S1 h => ?_) fun _ _ h => h)
  try dsimp only at h ⊢
  split at h
  · rename_i e1
    try rw [e1]
    split at h
    · rename_i e2
      simp only [Bool.and_eq_true, decide_eq_true_eq] at e2
      exact ⟨nodupB_ok e2.1, e2.2, s _ _ _ _ _ h⟩
    · exact h.elim
  · exact h.elim
abbrev wDictP := wDict fun ks vs S => .ok (.p (.dK ks vs)) S
abbrev wDictC := wDict fun ks vs S => .ok (.cell S.length) (S ++ [.dK ks vs])
theorem re_dict {keys : List (Option Expr)} {values : List Expr} {ms : List (FE × FE)} (h : RPs G X W pos keys values ms) (hall : keys.all (·.isSome) = true) (hl : keys.length = values.length) (h0 : keys ≠ []) (h15 : keys.length ≤ 15) : RE G X W (.Dict keys values pos) (wDictP ms) :=
  RE.of (RB.re_dict h hall hl h0 h15) fun r S Q E h => dict_in (fun _ _ _ _ _ h => h) h
theorem re_dictC {keys : List (Option Expr)} {values : List Expr} {ms : List (FE × FE)} (h : RPs G X W pos keys values ms) (hall : keys.all (·.isSome) = true) (hl : keys.length = values.length) (h0 : keys ≠ []) (h15 : keys.length ≤ 15) : RE G X W (.Dict keys values pos) (wDictC ms) :=
  RE.of (RB.re_dictC h hall hl h0 h15) fun r S Q E h => dict_in (fun _ _ _ _ _ h => h) h
end
end RB.F
namespace RB.F
open PySem PySem.Spec PyProof.Rows L2 RB
section
variable {G : Glob} {X : Cx} {W : WX} {e e2 a b c : Expr} {p pos : Pos}
def wIt (f : FE) (r : Rho) (S : Store) : O (List D) := (f r S).bind fun d S1 => match itemsOf S1 d with
  | some ds => .ok ds S1
  | none => .bad
theorem ri_seq {tg : Expr} {f : FE} (hK : X.K = G.K) (he : RE G X W e f) : RI G X W tg e (wIt f) := RI.of (RB.ri_seq hK he) fun r S Q E h => by
  unfold wIt at h
  rw [out_bind] at h
  refine out_mono h (fun d S1 h => ?_) fun _ _ h => h
  try dsimp only at h ⊢
  split at h
  · rename_i e1
    try rw [e1]
    exact h
  · exact h.elim
def chkA {α : Type} (b : Bool) (d : α) (S : Store) : O α := match b with
  | true => .ok d S
  | false => .bad
@[simp] theorem chkA_true {α : Type} {d : α} {S : Store} : chkA true d S = .ok d S := (rfl)
theorem out_chkA {α : Type} {b : Bool} {d : α} {S : Store} {Q : α → Store → Prop} {E : EK} (h : out (chkA b d S) Q E) : b = true ∧ Q d S := by
  cases b with
  | true => exact ⟨rfl, h⟩
  | false => exact h.elim
def in62 (i : Int) : Bool := decide (-(2 ^ 62) ≤ i) && decide (i < 2 ^ 62)
theorem in62_ok {i : Int} (h : in62 i = true) : -(2 ^ 62) ≤ i ∧ i < 2 ^ 62 := by
  unfold in62 at h
  simp only [Bool.and_eq_true, decide_eq_true_eq] at h
  exact h
def wRng (f : FA) (r : Rho) (S : Store) : O (List D) := (f r S).bind fun ds S1 => match ds with
  | [.p (.int j)] => chkA (in62 j) (rngD 0 j.toNat) S1
  | [.p (.int i), .p (.int j)] => chkA (in62 i && in62 j) (rngD i (j - i).toNat) S1
  | _ => .bad
theorem rng_in {f : FA} {r : Rho} {S : Store} {Q : List D → Store → Prop} {E : EK} (h : out (wRng f r S) Q E) : RB.wRng (lf f) r S Q E := by
  unfold wRng at h
  rw [out_bind] at h
  refine out_mono h (fun d S1 h => ?_) fun _ _ h => h
  split at h
  · have q := out_chkA h
    have := in62_ok q.1
    exact ⟨this.1, this.2, q.2⟩
  · have q := out_chkA h
    simp only [Bool.and_eq_true] at q
    have h1 := in62_ok q.1.1
    have h2 := in62_ok q.1.2
    exact ⟨⟨h1.1, h1.2, h2.1, h2.2⟩, q.2⟩
  · exact h.elim
theorem RB.wRng_mono' {m m' : WA} (i : ∀ r S Q E, m' r S Q E → m r S Q E) {r : Rho} {S : Store} {Q : List D → Store → Prop} {E : EK} (h : RB.wRng m' r S Q E) : RB.wRng m r S Q E := i _ _ _ _ h
theorem ri_range1 {tg : Expr} {p pos : Pos} {f : FE} (hg : Gl X "range") (hm : X.mg "range" = none) (ha : RE G X W a f) (hs : starEach [a] X.env = [(false, eval a X.env)] := by rfl) : RI G X W tg (.Call (.Name "range" p) [a] [] pos) (wRng (wCons f wNil)) := RI.of (RB.ri_range1 hg hm ha hs) fun r S Q E h =>
  RB.wRng_mono' (m' := lf (wCons f wNil)) (r := r) (S := S) (fun r S Q E h => cons_in h) (rng_in (f := wCons f wNil) h)
def wZip (f : FA) (r : Rho) (S : Store) : O (List D) := (f r S).bind fun ds S1 => match ds with
  | [d1, d2] => match zipP d1 d2 with
    | some ds => .ok ds S1
    | none => .bad
  | _ => .bad
theorem ri_zip {elts : List Expr} {kk : Nat} {tpos : Pos} {f : FA} (hK : X.K = G.K) (hg : Gl X "zip") (hm : X.mg "zip" = none) (ha : RA G X W [e, e2] f) (hs : starEach [e, e2] X.env = (false, eval e X.env) :: starEach [e2] X.env := by rfl) (hpl : (backTo pos (starEach [e2] X.env)).any (·.1) = false := by rfl) :
    RI G X W (.Tuple elts kk tpos) (.Call (.Name "zip" p) [e, e2] [] pos) (wZip f) := RI.of (RB.ri_zip hK hg hm ha hs hpl) fun r S Q E h => by
  unfold wZip at h
  rw [out_bind] at h
  refine out_mono h (fun d S1 h => ?_) fun _ _ h => h
  split at h
  · split at h
    · rename_i e1
      try dsimp only
      try rw [e1]
      exact h
    · exact h.elim
  · exact h.elim
def wEnum (f : FA) (r : Rho) (S : Store) : O (List D) := (f r S).bind fun ds S1 => match ds with
  | [.p (.lst xs)] => .ok (enumP xs) S1
  | _ => .bad
def wYes (_ : Rho) (S : Store) : O Bool := .ok true S
theorem rts_nil : RTs G X W [] wYes := RTs.of RB.rts_nil fun _ _ _ _ h => h
def lcF (T : Tgt) (ft : FT) (fe : FE) (r0 : Rho) : List D → Nat → Store → O (List P)
  | [], _, S => .ok [] S
  | d :: ds, n, S => match bindT T d r0 with
    | none => .bad
    | some r => match ft r S with
      | .ok true S1 => match fe r S1 with
        | .ok (.p x) S2 => match decide (n < sizeLine) with
          | true => (lcF T ft fe r0 ds (n + 1) S2).bind fun xs S3 => .ok (x :: xs) S3
          | false => .bad
        | _ => .bad
      | .ok false S1 => lcF T ft fe r0 ds n S1
      | _ => .bad
theorem lc_in {T : Tgt} {ft : FT} {fe : FE} {r0 : Rho} : ∀ {ds : List D} {acc : List P} {S : Store} {k : List P → Store → Prop} {E : EK}, out (lcF T ft fe r0 ds acc.length S) (fun ps S' => k (acc ++ ps) S') (fun _ _ => False) → RB.lcRun T (lf ft) (lf fe) r0 ds acc S k
  | [], acc, S, k, E, h => by
    unfold lcF at h
    unfold RB.lcRun
    simpa using h
  | d :: ds, acc, S, k, E, h => by
    unfold lcF at h
    unfold RB.lcRun
    split at h
    · exact h.elim
    · rename_i e1
      try rw [e1]
      try dsimp only
      split at h
      · rename_i S1 e2
        unfold lf
        rw [e2, out_ok, if_pos rfl]
        split at h
        · rename_i x S2 e3
          try rw [e3]
          split at h
          · rename_i e4
            rw [out_bind] at h
            refine ⟨by simpa [decide_eq_true_eq] using e4, lc_in (E := E) ?_⟩
            have e5 : (acc ++ [x]).length = acc.length + 1 := by simp
            try rw [e5]
            refine out_mono h (fun ps S' q => ?_) fun _ _ z => z
            have q : k (acc ++ x :: ps) S' := q
            simpa using q
          · exact h.elim
        · exact h.elim
      · rename_i S1 e2
        unfold lf
        rw [e2, out_ok, if_neg (by simp)]
        exact lc_in (E := E) h
      · exact h.elim
def wLC (fi : FA) (T : Tgt) (ft : FT) (fe : FE) (vs : List Nat) (r : Rho) (S : Store) : O D := (fi r S).bind fun ds S1 => (lcF T ft fe (wipeR r vs) ds 0 S1).bind fun ps S2 => .ok (.p (.lst ps)) S2
theorem lcF_noEx {T : Tgt} {ft : FT} {fe : FE} {r0 : Rho} : ∀ {ds : List D} {n : Nat} {S : Store} {x : Exc} {S' : Store}, lcF T ft fe r0 ds n S ≠ .ex x S'
  | [], _, _, _, _ => by unfold lcF; exact fun h => by cases h
  | d :: ds, n, S, x, S' => by
    unfold lcF
    split
    · exact fun h => by cases h
    · split
      · split
        · split
          · intro h
            cases e : lcF T ft fe r0 ds (n + 1) _ with
            | ok a S1 => rw [e] at h; cases h
            | ex y S1 => exact lcF_noEx e
            | bad => rw [e] at h; cases h
          · exact fun h => by cases h
        · exact fun h => by cases h
      · exact lcF_noEx
      · exact fun h => by cases h
theorem wLC_in {fi : FA} {T : Tgt} {ft : FT} {fe : FE} {vs : List Nat} {r : Rho} {S : Store} {Q : DK} {E : EK} (h : out (wLC fi T ft fe vs r S) Q E) : RB.wLC (lf fi) T (lf ft) (lf fe) vs r S Q E := by
  unfold wLC at h
  rw [out_bind] at h
  refine out_mono h (fun d S1 h => ?_) fun _ _ h => h
  rw [out_bind] at h
  refine lc_in (E := E) (acc := []) ?_
  show out (lcF T ft fe (wipeR r vs) d 0 S1) _ _
  cases e : lcF T ft fe (wipeR r vs) d 0 S1 with
  | ok a S2 =>
    rw [e] at h
    simpa using h
  | ex y S2 => exact (lcF_noEx e).elim
  | bad => rw [e] at h; exact h.elim
theorem re_lc {elt tg iter : Expr} {ifs : List Expr} {scope : Scope} {own : List (Str × Nat)} {pos : Pos} {fi : FA} {T : Tgt} {ft : FT} {fe : FE} (hK : X.K = G.K) (hc : X.calm = true) (hN : X.N.Nodup) (hi : RI G X W tg iter fi) (ok : BlkOk X.N X.env.scope scope own) (hT : ∀ i ∈ T.slots, i ∈ own.map (·.2))
    (hg : ∀ (s : Shared) (H : Hp) (C : Addr) (cl : List (Str × Addr)) (fp : List Addr), PG (X.blk s H scope (compEnvC scope cl C X.env) fp) tg (gT X.K T)) (ht : ∀ (s : Shared) (H : Hp) (C : Addr) (cl : List (Str × Addr)) (fp : List Addr), RTs G (X.blk s H scope (compEnvC scope cl C X.env) fp) WF ifs ft)
    (he : ∀ (s : Shared) (H : Hp) (C : Addr) (cl : List (Str × Addr)) (fp : List Addr), RE G (X.blk s H scope (compEnvC scope cl C X.env) fp) WF elt fe) (hs : ∀ x, foldedSetIterable iter X.env x = pure x := by intro _; rfl) :
    RE G X W (.ListComp elt [⟨tg, iter, ifs, 0⟩] scope pos) (wLC fi T ft fe (own.map (·.2))) := RE.of (RB.re_lc hK hc hN hi ok hT hg ht he hs) fun r S Q E h => wLC_in h
inductive R where
  | nx (r : Rho) (S : Store)
  | rt (d : D) (S : Store)
  | bk (r : Rho) (S : Store)
  | ct (r : Rho) (S : Store)
  | ex (r : Rho) (x : Exc) (S : Store)
  | bad
def outS (o : R) (D : DE) : Prop := match o with
  | .nx r S => D.nx r S
  | .rt d S => D.rt d S
  | .bk r S => D.bk r S
  | .ct r S => D.ct r S
  | .ex r x S => D.xc r x S
  | .bad => False
abbrev FS := Rho → Store → R
def lfS (f : FS) : WS := fun D r S => outS (f r S) D
theorem outS_mono {o : R} {D D' : DE} (l : DE.le D D') (h : outS o D) : outS o D' := by
  cases o with
  | nx r S => exact l.nx _ _ h
  | rt d S => exact l.rt _ _ h
  | bk r S => exact l.bk _ _ h
  | ct r S => exact l.ct _ _ h
  | ex r x S => exact l.xc _ _ _ h
  | bad => exact h
theorem lfS_mon (f : FS) : MonS (lfS f) := fun _ _ _ _ l h => outS_mono l h
def RS (G : Glob) (X : Cx) (W : WX) (st : Stmt) (f : FS) : Prop := RB.RS G X W st (lfS f)
def RSs (G : Glob) (X : Cx) (W : WX) (st : List Stmt) (f : FS) : Prop := RB.RSs G X W st (lfS f)
theorem RS.of {st : Stmt} {m : WS} {f : FS} (h : RB.RS G X W st m) (i : ∀ D r S, outS (f r S) D → m D r S) : RS G X W st f :=
  ⟨PS.imp h.ps fun D σ H ⟨w, S, r, ok, en, q⟩ => ⟨w, S, r, ok, en, i _ _ _ q⟩, lfS_mon f⟩
theorem RSs.of {st : List Stmt} {m : WS} {f : FS} (h : RB.RSs G X W st m) (i : ∀ D r S, outS (f r S) D → m D r S) : RSs G X W st f :=
  ⟨PSs.imp h.ps fun D σ H ⟨w, S, r, ok, en, q⟩ => ⟨w, S, r, ok, en, i _ _ _ q⟩, lfS_mon f⟩
def R.seq (o : R) (f : FS) : R := match o with
  | .nx r S => f r S
  | .rt d S => .rt d S
  | .bk r S => .bk r S
  | .ct r S => .ct r S
  | .ex r x S => .ex r x S
  | .bad => .bad
@[simp] theorem seq_nx {r : Rho} {S : Store} {f : FS} : (R.nx r S).seq f = f r S := (rfl)
@[simp] theorem seq_rt {d : D} {S : Store} {f : FS} : (R.rt d S).seq f = .rt d S := (rfl)
@[simp] theorem seq_bk {r : Rho} {S : Store} {f : FS} : (R.bk r S).seq f = .bk r S := (rfl)
@[simp] theorem seq_ct {r : Rho} {S : Store} {f : FS} : (R.ct r S).seq f = .ct r S := (rfl)
@[simp] theorem seq_ex {r : Rho} {x : Exc} {S : Store} {f : FS} : (R.ex r x S).seq f = .ex r x S := (rfl)
@[simp] theorem seq_bad {f : FS} : R.bad.seq f = .bad := (rfl)
def O.st {α : Type} (o : O α) (r : Rho) (k : α → Store → R) : R := match o with
  | .ok a S => k a S
  | .ex x S => .ex r x S
  | .bad => .bad
@[simp] theorem st_ok {α : Type} {a : α} {S : Store} {r : Rho} {k : α → Store → R} : (O.ok a S).st r k = k a S := (rfl)
@[simp] theorem st_ex {α : Type} {x : Exc} {S : Store} {r : Rho} {k : α → Store → R} : (O.ex x S : O α).st r k = .ex r x S := (rfl)
@[simp] theorem st_bad {α : Type} {r : Rho} {k : α → Store → R} : (O.bad : O α).st r k = .bad := (rfl)
theorem outS_st {α : Type} {o : O α} {r : Rho} {k : α → Store → R} {D : DE} : outS (o.st r k) D = out o (fun a S => outS (k a S) D) (D.xc r) := by cases o <;> rfl
def wNext (r : Rho) (S : Store) : R := .nx r S
def wSeq (f1 f2 : FS) (r : Rho) (S : Store) : R := (f1 r S).seq f2
variable {st : Stmt} {rest : List Stmt}
theorem rss_nil : RSs G X W [] wNext := RSs.of RB.rss_nil fun _ _ _ h => h
theorem outS_seq {o : R} {f : FS} {D : DE} : outS (o.seq f) D = outS o { D with nx := fun r S => outS (f r S) D } := by cases o <;> rfl
theorem rss_cons {f1 f2 : FS} (h1 : RS G X W st f1) (h2 : RSs G X W rest f2) : RSs G X W (st :: rest) (wSeq f1 f2) := RSs.of (RB.rss_cons h1 h2) fun D r S h => by
  unfold wSeq at h
  rw [outS_seq] at h
  exact h
theorem rss_one {f : FS} (h : RS G X W st f) : RSs G X W [st] f := RB.rss_one h
def wBreak (r : Rho) (S : Store) : R := .bk r S
def wCont (r : Rho) (S : Store) : R := .ct r S
def wRet (f : FE) (r : Rho) (S : Store) : R := (f r S).st r fun d S1 => .rt d S1
theorem rs_ret {f : FE} (h : RE G X W e f) : RS G X W (.Return (some e) pos) (wRet f) := RS.of (RB.rs_ret h) fun D r S h => by
  unfold wRet at h
  rw [outS_st] at h
  exact h
def wRetN (_ : Rho) (S : Store) : R := .rt (.p .non) S
def wDrop (f : FE) (r : Rho) (S : Store) : R := (f r S).st r fun _ S1 => .nx r S1
theorem rs_expr {f : FE} (h : RE G X W e f) (hs : swapsWith e none pos.line X.env = pure false := by rfl) : RS G X W (.Expr e pos) (wDrop f) := RS.of (RB.rs_expr h hs) fun D r S h => by
  unfold wDrop at h
  rw [outS_st] at h
  exact h
def wSet (i : Nat) (f : FE) (r : Rho) (S : Store) : R := (f r S).st r fun d S1 => .nx (r.set i (some d)) S1
theorem set_in {i : Nat} {f : FE} {D : DE} {r : Rho} {S : Store} (h : outS (wSet i f r S) D) : RB.wSet i (lf f) D r S := by
  unfold wSet at h
  rw [outS_st] at h
  exact h
theorem rs_set {i : Nat} {x : Str} {pos' : Pos} {f : FE} (hN : X.N.Nodup) (hi : X.N[i]? = some x) (hx : Loc X.env.scope x) (h : RE G X W e f) (hs : swapsWith e (some (.Name x pos')) pos.line X.env = pure false := by rfl) (hf : X.fn x = true ∨ X.env.scope.names.lookup x = some .local := by first | exact .inl rfl | exact .inr rfl | assumption) :
    RS G X W (.Assign [.Name x pos'] e pos) (wSet i f) := RS.of (RB.rs_set hN hi hx h hs hf) fun D r S h => set_in h
theorem rs_setLc {i : Nat} {y : Str} {py spos : Pos} {elt tg iter : Expr} {ifs : List Expr} {scope : Scope} {own : List (Str × Nat)} {pos : Pos} {fi : FA} {T : Tgt} {ft : FT} {fe : FE} (hK : X.K = G.K) (hc : X.calm = true) (hN : X.N.Nodup) (hy : X.N[i]? = some y) (hyl : X.env.scope.names.lookup y = some .local)
    (hsw : swapsWith (.ListComp elt [⟨tg, iter, ifs, 0⟩] scope pos) (some (.Name y py)) spos.line X.env = pure true) (hi : RI G X W tg iter fi) (ok : BlkOk X.N X.env.scope scope own) (hT : ∀ i ∈ T.slots, i ∈ own.map (·.2))
    (hg : ∀ (s : Shared) (H : Hp) (C : Addr) (cl : List (Str × Addr)) (fp : List Addr), PG (X.blk s H scope (compEnvC scope cl C X.env) fp) tg (gT X.K T)) (ht : ∀ (s : Shared) (H : Hp) (C : Addr) (cl : List (Str × Addr)) (fp : List Addr), RTs G (X.blk s H scope (compEnvC scope cl C X.env) fp) WF ifs ft)
    (he : ∀ (s : Shared) (H : Hp) (C : Addr) (cl : List (Str × Addr)) (fp : List Addr), RE G (X.blk s H scope (compEnvC scope cl C X.env) fp) WF elt fe) (hs : ∀ x, foldedSetIterable iter X.env x = pure x := by intro _; rfl) :
    RS G X W (.Assign [.Name y py] (.ListComp elt [⟨tg, iter, ifs, 0⟩] scope pos) spos) (wSet i (wLC fi T ft fe (own.map (·.2)))) := RS.of (RB.rs_setLc hK hc hN hy hyl hsw hi ok hT hg ht he hs) fun D r S h => by
  unfold wSet at h
  rw [outS_st] at h
  exact wLC_in h
def wIfS (t : FT) (f1 f2 : FS) (r : Rho) (S : Store) : R := (t r S).st r fun b S1 => if b = true then f1 r S1 else f2 r S1
theorem rs_if {t : FT} {f1 f2 : FS} {bd el : List Stmt} (hc : RT G X W c t) (h1 : RSs G X W bd f1) (h2 : RSs G X W el f2) : RS G X W (.If c bd el pos) (wIfS t f1 f2) := RS.of (RB.rs_if hc h1 h2) fun D r S h => by
  unfold wIfS at h
  rw [outS_st] at h
  refine out_mono h (fun b S1 h => ?_) fun _ _ h => h
  cases b with
  | true => exact h
  | false => exact h
def forF (T : Tgt) (f : FS) : List D → Rho → Store → R
  | [], r, S => .nx r S
  | d :: ds, r, S => match bindT T d r with
    | none => .bad
    | some r' => match f r' S with
      | .nx r2 S2 => forF T f ds r2 S2
      | .ct r2 S2 => forF T f ds r2 S2
      | .bk r2 S2 => .nx r2 S2
      | .rt d S2 => .rt d S2
      | .ex r x S2 => .ex r x S2
      | .bad => .bad
theorem forF_in {T : Tgt} {f : FS} {D : DE} : ∀ {ds : List RB.D} {r : Rho} {S : Store}, outS (forF T f ds r S) D → RB.forRun T (lfS f) D ds r S
  | [], r, S, h => h
  | d :: ds, r, S, h => by
    unfold forF at h
    unfold RB.forRun
    split at h
    · exact h.elim
    · rename_i r' e
      try rw [e]
      show outS (f r' S) _
      split at h
      · rename_i e2; try rw [e2]; exact forF_in h
      · rename_i e2; try rw [e2]; exact forF_in h
      · rename_i e2; try rw [e2]; exact h
      · rename_i e2; try rw [e2]; exact h
      · rename_i e2; try rw [e2]; exact h
      · exact h.elim
def wFor (fi : FA) (T : Tgt) (f : FS) (r : Rho) (S : Store) : R := (fi r S).st r fun ds S1 => forF T f ds r S1
theorem rs_for {tg iter : Expr} {body : List Stmt} {fi : FA} {T : Tgt} {f : FS} (hK : X.K = G.K) (hp : PassesOwn (model X.prog X.w) X.A X.env X.xe) (hc : X.calm = true) (hi : RI G X W tg iter fi) (hg : PG X tg (gT X.K T)) (hb : RSs G X W body f)
    (hs : ∀ x, foldedSetIterable iter X.env x = pure x := by intro _; rfl) : RS G X W (.For tg iter body [] pos) (wFor fi T f) := RS.of (RB.rs_for hK hp hc hi hg hb hs) fun D r S h => by
  unfold wFor at h
  rw [outS_st] at h
  exact out_mono h (fun ds S1 h => forF_in h) fun _ _ h => h
end
end RB.F
namespace RB.F
open PySem PySem.Spec PyProof.Rows L2 RB
section
variable {G : Glob} {X : Cx} {W : WX} {n k : Nat} {o e value : Expr} {es : List Expr} {p pos pos' apos : Pos} {f m : Str}
def wPut3 (p : D → D → D → Store → O Unit) (fo fi fv : FE) (r : Rho) (S : Store) : R := (fv r S).st r fun dv S1 => (fo r S1).st r fun d S2 => (fi r S2).st r fun di S3 => (p d di dv S3).st r fun _ S4 => .nx r S4
def dDPut (d dk dv : D) (S : Store) : O Unit := match keyOf dk, d, dv with
  | some k, .cell n, .p v => match S[n]? with
    | some (.dK ks vs) => if decide (ks.length < sizeLine) then (if (ks.any fun k' => decide (k' = k)) = true then .ok () (S.set n (.dK ks (kset ks vs k v))) else .ok () (S.set n (.dK (ks ++ [k]) (vs ++ [v])))) else .bad
    | _ => .bad
  | _, _, _ => .bad
abbrev wDPut := wPut3 dDPut
theorem put3_in {p : D → D → D → Store → O Unit} {q : D → D → D → Store → (Store → Prop) → Prop} (s : ∀ d di dv S K E, out (p d di dv S) (fun _ S => K S) E → q d di dv S K) {fo fi fv : FE} {D : DE} {r : Rho} {S : Store} (h : outS (wPut3 p fo fi fv r S) D) :
    out (fv r S) (fun dv S1 => out (fo r S1) (fun d S2 => out (fi r S2) (fun di S3 => q d di dv S3 (fun S4 => D.nx r S4)) (D.xc r)) (D.xc r)) (D.xc r) := by
  unfold wPut3 at h
  rw [outS_st] at h
  refine out_mono h (fun _ _ h => ?_) fun _ _ h => h
  rw [outS_st] at h
  refine out_mono h (fun _ _ h => ?_) fun _ _ h => h
  rw [outS_st] at h
  refine out_mono h (fun _ _ h => ?_) fun _ _ h => h
  rw [outS_st] at h
  exact s _ _ _ _ _ _ h
theorem rs_dput {i : Expr} {fo fi fv : FE} (hu : X.A.units + 1 < cLine) (ho : RE G X W o fo) (hi : RE G X W i fi) (hv : RE G X W value fv) (hs : swapsWith value (some (.Subscript o i pos')) pos.line X.env = pure false := by rfl) :
    RS G X W (.Assign [.Subscript o i pos'] value pos) (wDPut fo fi fv) := RS.of (RB.rs_dput hu ho hi hv hs) fun D r S h => put3_in (q := RB.dDPut) (fun d di dv S K E h => by
  unfold dDPut at h
  unfold RB.dDPut
  split at h
  · rename_i e1
    try rw [e1]
    split at h
    · rename_i e2
      try dsimp only
      try rw [e2]
      split at h
      · rename_i e3
        refine ⟨by simpa [decide_eq_true_eq] using e3, ?_⟩
        split at h
        · rename_i e4
          rw [if_pos e4]
          exact h
        · rename_i e4
          rw [if_neg e4]
          exact h
      · exact h.elim
    · exact h.elim
  · exact h.elim) h
def dLPut (d di dv : D) (S : Store) : O Unit := match d, di, dv with
  | .cell n, .p (.int i), .p v => match S[n]? with
    | some (.lst ps) => match ixN ps.length i with
      | some j => .ok () (S.set n (.lst (ps.set j v)))
      | none => .bad
    | _ => .bad
  | _, _, _ => .bad
abbrev wLPut := wPut3 dLPut
theorem rs_lput {i : Expr} {fo fi fv : FE} (ho : RE G X W o fo) (hi : RE G X W i fi) (hv : RE G X W value fv) (hs : swapsWithSole [.Subscript o i pos'] value pos.line X.env = pure false := by rfl) (hw : swappedStores [.Subscript o i pos'] value X.env = pure none := by rfl)
    (h1 : (assignEach [.Subscript o i pos'] X.env).map (·.2) = [assign (.Subscript o i pos') X.env] := by rfl)
    (ha : ∀ v, assign (.Subscript o i pos') X.env v = (do
      let ov ← holding [v] (eval o X.env)
      let iv ← holding [v, ov] (eval i X.env)
      standAt pos'
      holding [v, ov, iv] (setItem ov iv v)
      release [v, ov, iv] []) := by intro _; rfl) : RS G X W (.Assign [.Subscript o i pos'] value pos) (wLPut fo fi fv) := RS.of (RB.rs_lput ho hi hv hs hw h1 ha) fun D r S h => put3_in (q := RB.dLPut) (fun d di dv S K E h => by
  unfold dLPut at h
  unfold RB.dLPut
  split at h
  · split at h
    · rename_i e2
      try dsimp only
      try rw [e2]
      split at h
      · rename_i j e3
        exact ⟨j, e3, h⟩
      · exact h.elim
    · exact h.elim
  · exact h.elim) h
def dFSet (cs : List String) (f : Str) (d dv : D) (S : Store) : O Unit := match d, dv with
  | .cell n, .p v => match S[n]? with
    | some (.obj c ns vs) => if cs.contains c && decide (ns.length < 900) then .ok () (S.set n (.obj c (fputN f ns) (fputV f v ns vs))) else .bad
    | _ => .bad
  | _, _ => .bad
def wFSet (cs : List String) (f : Str) (fo fv : FE) (r : Rho) (S : Store) : R := (fv r S).st r fun dv S1 => (fo r S1).st r fun d S2 => (dFSet cs f d dv S2).st r fun _ S3 => .nx r S3
theorem rs_fset {cs : List String} {fo fv : FE} (hc : ∀ c ∈ cs, ∀ C, G.cls c = some C → Cls X.K C ∧ NoAttr X.K C f) (ho : RE G X W o fo) (hv : RE G X W value fv) (hs : swapsWith value (some (.Attribute o f pos')) pos.line X.env = pure false := by rfl) :
    RS G X W (.Assign [.Attribute o f pos'] value pos) (wFSet cs f fo fv) := RS.of (RB.rs_fset hc ho hv hs) fun D r S h => by
  unfold wFSet at h
  rw [outS_st] at h
  refine out_mono h (fun _ _ h => ?_) fun _ _ h => h
  rw [outS_st] at h
  refine out_mono h (fun _ _ h => ?_) fun _ _ h => h
  rw [outS_st] at h
  unfold dFSet at h
  unfold RB.dFSet
  split at h
  · split at h
    · rename_i e2
      try dsimp only
      try rw [e2]
      split at h
      · rename_i e3
        simp only [Bool.and_eq_true, decide_eq_true_eq, List.contains_iff_mem] at e3
        exact ⟨e3.1, e3.2, h⟩
      · exact h.elim
    · exact h.elim
  · exact h.elim
def wPar2 (i j : Nat) (fa : FA) (r : Rho) (S : Store) : R := (fa r S).st r fun ds S1 => match ds with
  | [d1, d2] => .nx ((r.set i (some d1)).set j (some d2)) S1
  | _ => .bad
def wPar3 (i j l : Nat) (fa : FA) (r : Rho) (S : Store) : R := (fa r S).st r fun ds S1 => match ds with
  | [d1, d2, d3] => .nx (((r.set i (some d1)).set j (some d2)).set l (some d3)) S1
  | _ => .bad
theorem rs_par2 {fa : FA} {i j : Nat} {x y : Str} {a b : Expr} {px py pt : Pos} {kt k2 pt2} (hc : X.calm = true) (hN : X.N.Nodup) (hi : X.N[i]? = some x) (hj : X.N[j]? = some y) (hij : i ≠ j) (hx : X.env.scope.names.lookup x = some .local) (hy : X.env.scope.names.lookup y = some .local) (ha : RA G X W [a, b] fa)
    (hw : swappedStores [.Tuple [.Name x px, .Name y py] kt pt] (.Tuple [a, b] k2 pt2) X.env = pure (some [x, y]) := by rfl) (hs : swapsWithSole [.Tuple [.Name x px, .Name y py] kt pt] (.Tuple [a, b] k2 pt2) pos.line X.env = pure false := by rfl) :
    RS G X W (.Assign [.Tuple [.Name x px, .Name y py] kt pt] (.Tuple [a, b] k2 pt2) pos) (wPar2 i j fa) := RS.of (RB.rs_par2 hc hN hi hj hij hx hy ha hw hs) fun D r S h => by
  unfold wPar2 at h
  rw [outS_st] at h
  refine out_mono h (fun _ _ h => ?_) fun _ _ h => h
  split at h
  · exact h
  · exact h.elim
def wAsgT (is : List Nat) (f : FE) (r : Rho) (S : Store) : R := (f r S).st r fun d S1 => match seqD S1 d with
  | some ps => if decide (ps.length = is.length) then .nx (setAll is ps r) S1 else .bad
  | none => .bad
theorem rs_asgT {fe : FE} {is : List Nat} {es : List Expr} {k : Nat} {tp : Pos} (hK : X.K = G.K) (hc : X.calm = true) (he : RE G X W e fe) (hg : PGs X es (gNames is)) (hn : (assignEach es X.env).length = is.length := by rfl) (hst : (assignEach es X.env).findIdx? (·.1) = none := by rfl)
    (hs : swapsWithSole [.Tuple es k tp] e pos.line X.env = pure false := by rfl) (hw : swappedStores [.Tuple es k tp] e X.env = pure none := by rfl) (h1 : (assignEach [.Tuple es k tp] X.env).map (·.2) = [assign (.Tuple es k tp) X.env] := by rfl) :
    RS G X W (.Assign [.Tuple es k tp] e pos) (wAsgT is fe) := RS.of (RB.rs_asgT hK hc he hg hn hst hs hw h1) fun D r S h => by
  unfold wAsgT at h
  rw [outS_st] at h
  refine out_mono h (fun _ _ h => ?_) fun _ _ h => h
  try dsimp only at h ⊢
  split at h
  · rename_i e1
    try rw [e1]
    split at h
    · rename_i e2
      exact ⟨of_decide_eq_true e2, h⟩
    · exact h.elim
  · exact h.elim
def wRaise (c : String) (fs : List Str) (fa : FA) (r : Rho) (S : Store) : R := (fa r S).st r fun ds S1 => match allP ds with
  | some ps => if decide (ps.length = fs.length) && decide (fs.length ≤ 900) then .ex r ⟨c, fs.reverse, ps.reverse⟩ S1 else .bad
  | none => .bad
theorem rs_raise {x : Str} {fI Cc : Addr} {fd : FuncData} {ps fs : List Str} {c : String} {fa : FA} (C : CxG G X W n) (T : ExK X.K Cc fI fs) (F : FnOk X.prog X.w X.K X.mg X.base (L2.CX X.prog X.w) k fI fd ps (spI X.K fs)) (hk : k + 1 ≤ n) (hb : Binds X.K fd ps []) (hg : Gl X x) (hm : X.mg x = some (.ref Cc)) (hc : G.cls c = some Cc) (hi : G.isE c = true) (ha : RA G X W (e :: es) fa)
    (hdb : (x == ("__debug__" : Str)) = false := by decide) (he : starEach (e :: es) X.env = (false, eval e X.env) :: starEach es X.env := by rfl) (hpl : (backTo pos (starEach es X.env)).any (·.1) = false := by rfl) :
    RS G X W (.Raise (some (.Call (.Name x p) (e :: es) [] pos)) none pos') (wRaise c fs fa) := RS.of (RB.rs_raise C T F hk hb hg hm hc hi ha hdb he hpl) fun D r S h => by
  unfold wRaise at h
  rw [outS_st] at h
  refine out_mono h (fun _ _ h => ?_) fun _ _ h => h
  try dsimp only at h ⊢
  split at h
  · rename_i e1
    try rw [e1]
    split at h
    · rename_i e2
      simp only [Bool.and_eq_true, decide_eq_true_eq] at e2
      exact ⟨e2.1, e2.2, h⟩
    · exact h.elim
  · exact h.elim
def R.gone (o : R) (i : Nat) : R := match o with
  | .nx r S => .nx (r.set i none) S
  | .rt d S => .rt d S
  | .bk r S => .bk (r.set i none) S
  | .ct r S => .ct (r.set i none) S
  | _ => .bad
abbrev Hds := List ((String → Bool) × Nat × FS)
def wPick : Hds → Rho → Exc → Store → R
  | [], r, x, S => .ex r x S
  | (t, i, f) :: l, r, x, S => if t x.c = true then (f (r.set i (some (.p (.obj x.c x.ns x.vs)))) S).gone i else wPick l r x S
def R.tryE (o : R) (hs : Hds) : R := match o with
  | .ex r x S => wPick hs r x S
  | .nx r S => .nx r S
  | .rt d S => .rt d S
  | .bk r S => .bk r S
  | .ct r S => .ct r S
  | .bad => .bad
@[simp] theorem try_ex {r : Rho} {x : Exc} {S : Store} {hs : Hds} : (R.ex r x S).tryE hs = wPick hs r x S := (rfl)
@[simp] theorem try_nx {r : Rho} {S : Store} {hs : Hds} : (R.nx r S).tryE hs = .nx r S := (rfl)
@[simp] theorem try_rt {d : D} {S : Store} {hs : Hds} : (R.rt d S).tryE hs = .rt d S := (rfl)
@[simp] theorem gone_nx {r : Rho} {S : Store} {i : Nat} : (R.nx r S).gone i = .nx (r.set i none) S := (rfl)
@[simp] theorem gone_rt {d : D} {S : Store} {i : Nat} : (R.rt d S).gone i = .rt d S := (rfl)
def wTry (f : FS) (hs : Hds) (r : Rho) (S : Store) : R := (f r S).tryE hs
abbrev lfH (hs : Hds) : List ((String → Bool) × Nat × WS) := hs.map fun q => (q.1, q.2.1, lfS q.2.2)
theorem pick_in {D : DE} : ∀ {hs : Hds} {r : Rho} {x : Exc} {S : Store}, outS (wPick hs r x S) D → RB.wPick (lfH hs) D r x S
  | [], r, x, S, h => h
  | (t, i, f) :: l, r, x, S, h => by
    unfold wPick at h
    show RB.wPick ((t, i, lfS f) :: lfH l) D r x S
    unfold RB.wPick
    split at h
    · rename_i e1
      rw [if_pos e1]
      show outS (f _ S) _
      cases e : f (r.set i (some (.p (.obj x.c x.ns x.vs)))) S with
      | nx r S => rw [e] at h; exact h
      | rt d S => rw [e] at h; exact h
      | bk r S => rw [e] at h; exact h
      | ct r S => rw [e] at h; exact h
      | ex r x S => rw [e] at h; exact h.elim
      | bad => rw [e] at h; exact h.elim
    · rename_i e1
      rw [if_neg e1]
      exact pick_in h
abbrev HdF (G : Glob) (X : Cx) (hds : List ExceptHandler) (l : List (List Value × Nat × TS)) (hs : Hds) : Prop := HdL G X hds l (lfH hs)
theorem hd_nil : HdF G X [] [] [] := .nil
theorem hd_cons {x nm : Str} {c : Value} {i : Nat} {t : String → Bool} {ms : FS} {b0 : Stmt} {su : List Stmt} {np hp : Pos} {hds : List ExceptHandler} {l : List (List Value × Nat × TS)} {hs : Hds} (hi : X.N[i]? = some nm) (hl : X.env.kindOf nm = some .local) (hc : Names X x c)
      (hx : ∀ y C, G.cls y = some C → PySem.W.exmOne X.K (.ref C) c = some (t y)) (hsu : ∀ a, RSs G (hotX X a) WF (b0 :: su) ms) (r : HdF G X hds l hs) : HdF G X (.ExceptHandler (some (.Name x np)) (some nm) (b0 :: su) hp :: hds) (([c], i, tMs G WF (lfS ms)) :: l) ((t, i, ms) :: hs) := HdL.cons hi hl hc hx hsu r
theorem rs_tryP {body : List Stmt} {h0 : ExceptHandler} {hds : List ExceptHandler} {l : List (List Value × Nat × TS)} {hs : Hds} {mb : FS} {pos : Pos} (C : CxG G X W n) (hp : PassesOwn (model X.prog X.w) X.A X.env X.xe) (st : X.stack = X.env :: X.outer) (fr : X.env.frame = some X.env.locals) (nx : X.ex = []) (nd : X.N.Nodup)
    (hb : ∀ (W' : WX) (pn : List (Addr × Obj)) (xe : Value → Shared → Prop), CxG G (X.tr pn xe) W' n → PassesOwn (model X.prog X.w) X.A X.env xe → RSs G (X.tr pn xe) W' body mb) (hh : HdF G X (h0 :: hds) l hs) :
    RS G X W (.Try body (h0 :: hds) [] [] pos) (wTry mb hs) := RS.of (RB.rs_tryP C hp st fr nx nd hb hh) fun D r S h => by
  unfold wTry at h
  show outS (mb r S) _
  cases e : mb r S with
  | nx r S => rw [e] at h; exact h
  | rt d S => rw [e] at h; exact h
  | bk r S => rw [e] at h; exact h
  | ct r S => rw [e] at h; exact h
  | ex r x S => rw [e] at h; exact pick_in h
  | bad => rw [e] at h; exact h.elim
abbrev FD := List D → Store → O D
def spF (m : FD) : DSp := fun ds S Q E => out (m ds S) Q E
theorem spF_mon (m : FD) : DMon (spF m) := fun _ _ _ _ _ _ hq he h => out_mono h hq he
def finF (n : Nat) (o : R) : O D := match o with
  | .nx _ S => .ok (.p .non) (S.take n)
  | .rt d S => .ok d (cutD n d S)
  | .ex _ x S => .ex x (S.take n)
  | _ => .bad
@[simp] theorem fin_nx {n : Nat} {r : Rho} {S : Store} : finF n (.nx r S) = .ok (.p .non) (S.take n) := (rfl)
@[simp] theorem fin_rt {n : Nat} {d : D} {S : Store} : finF n (.rt d S) = .ok d (cutD n d S) := (rfl)
@[simp] theorem fin_ex {n : Nat} {r : Rho} {x : Exc} {S : Store} : finF n (.ex r x S) = .ex x (S.take n) := (rfl)
def fnF (N ps : List Str) (f : FS) (ds : List D) (S : Store) : O D := if decide (ds.length = ps.length) then finF S.length (f (startR N ds) S) else .bad
theorem fnF_len {N ps : List Str} {f : FS} (ds : List D) (S : Store) (Q : DK) (E : EK) (h : spF (fnF N ps f) ds S Q E) : ds.length = ps.length := by
  unfold spF fnF at h
  split at h
  · rename_i e; exact of_decide_eq_true e
  · exact h.elim
theorem fnF_pur {N ps : List Str} {f : FS} (ds : List D) (S : Store) (Q : DK) (E : EK) (h : spF (fnF N ps f) ds S Q E) : lfS f (endsF S.length Q E) (startR N ds) S := by
  unfold spF fnF at h
  split at h
  · show outS (f (startR N ds) S) _
    cases e : f (startR N ds) S with
    | nx r S => rw [e] at h; exact h
    | rt d S => rw [e] at h; exact h
    | bk r S => rw [e] at h; exact h.elim
    | ct r S => rw [e] at h; exact h.elim
    | ex r x S => rw [e] at h; exact h
    | bad => rw [e] at h; exact h.elim
  · exact h.elim
theorem fn_f {P : Program} {w : World} {mg : Str → Option Value} {base : Heap} {x qual : Str} {params : Arguments} {body : List Stmt} {scope : Scope} {dvs : List V} {kws : List (Str × V)} {fa : Addr} {fd : FuncData} {N ps : List Str} {k : Nat} {f : FS} (nc : G.cels = false) (F : FunD G.K x qual params body scope dvs kws fa fd) (S : FnScope N ps scope)
    (hbody : ∀ (cdv : Value) (A : Around) (outer : List Env) (s : Shared) (H : Hp) (E : XK), CxG G (cxOf (L2.CX P w) P w G.K mg base N qual scope fa cdv A outer s H E) (fun cls d _ H' => E cls d H') k →
      RSs G (cxOf (L2.CX P w) P w G.K mg base N qual scope fa cdv A outer s H E) (fun cls d _ H' => E cls d H') body f) : FnG G P w mg base (k + 1) fa fd ps (spF (fnF N ps f)) :=
  fn_g nc F S (spF_mon _) fnF_len hbody fnF_pur
theorem fn_bad {P : Program} {w : World} {mg : Str → Option Value} {base : Heap} {fa : Addr} {fd : FuncData} {ps : List Str} {k : Nat} : FnG G P w mg base k fa fd ps (spF fun _ _ => .bad) :=
  ⟨spF_mon _, fun _ _ _ _ h => h.elim, fun _ _ _ _ _ _ _ _ _ _ _ _ _ _ ⟨_, _, _, _, _, h⟩ => h.elim⟩
def wCall (m : FD) (dds : List D) (fa : FA) (r : Rho) (S : Store) : O D := (fa r S).bind fun ds S1 => m (ds ++ dds) S1
def wCall0 (m : FD) (fa : FA) (r : Rho) (S : Store) : O D := (fa r S).bind m
theorem re_callN {x : Str} {fI : Addr} {fd : FuncData} {ps : List Str} {mf : FD} {fa : FA} (C : CxG G X W n) (F : FnG G X.prog X.w X.mg X.base k fI fd ps (spF mf)) (hk : k ≤ n) (hg : Gl X x) (hm : X.mg x = some (.ref fI)) (kp : PySem.W.keepIn X.K (.ref fI) = true) (hb : Binds X.K fd ps []) (ha : RA G X W (e :: es) fa)
    (hdb : (x == ("__debug__" : Str)) = false := by decide) (he : starEach (e :: es) X.env = (false, eval e X.env) :: starEach es X.env := by rfl) (hpl : (backTo pos (starEach es X.env)).any (·.1) = false := by rfl) :
    RE G X W (.Call (.Name x p) (e :: es) [] pos) (wCall0 mf fa) := RE.of (RB.re_callN C F hk hg hm kp hb ha hdb he hpl) fun r S Q E h => by
  unfold wCall0 at h
  rw [out_bind] at h
  refine out_mono h (fun ds _ h => ?_) fun _ _ h => h
  show spF mf (ds ++ []) _ _ _
  rw [List.append_nil]
  exact h
def wCallK (m : FD) (g : List D → List D) (fk : FA) (r : Rho) (S : Store) : O D := (fk r S).bind fun zs S1 => m (g zs) S1
def dAttr (cs : List String) (f : Str) (d : D) (S : Store) : O D := match objOf S d with
  | some (c, ns, vs) => match flook ns vs f with
    | some p => chk (cs.contains c) (.p p) S
    | none => .bad
  | none => .bad
abbrev wAttr (cs : List String) (f : Str) (fe : FE) : FE := wUn (dAttr cs f) fe
theorem un_in {q : D → Store → O D} {d : D → Store → DK → Prop} (s : ∀ d1 S Q E, out (q d1 S) Q E → d d1 S Q) {fe : FE} {r : Rho} {S : Store} {Q : DK} {E : EK} (h : out (wUn q fe r S) Q E) : RB.wUn d (lf fe) r S Q E := by
  unfold wUn at h
  rw [out_bind] at h
  exact out_mono h (fun d1 S1 h => s _ _ _ _ h) fun _ _ h => h
theorem re_attr {cs : List String} {fe : FE} (ha : ∀ c ∈ cs, ∀ C, G.cls c = some C → AtC G X.K c C f) (he : RE G X W e fe) (hb : attributeBase e f X.env (eval e X.env) = eval e X.env := by rfl) : RE G X W (.Attribute e f pos) (wAttr cs f fe) := RE.of (RB.re_attr ha he hb) fun r S Q E h => un_in (d := RB.dAttr cs f) (fun d S Q E h => by
  unfold dAttr at h
  unfold RB.dAttr
  split at h
  · rename_i e1
    try rw [e1]
    split at h
    · rename_i e2
      exact ⟨List.contains_iff_mem.mp (out_chk h).1, _, e2, (out_chk h).2⟩
    · exact h.elim
  · exact h.elim) h
def dIsK (ts : List String) (t : String → Bool) (d : D) (S : Store) : O D := match tyN S d with
  | some c => chk (ts.contains c) (.p (.bl (t c))) S
  | none => .bad
theorem re_isK {ts : List String} {t : String → Bool} {fe : FE} {p p1 : Pos} {x : Str} {u : Value} {uv : V} (hK : X.K = G.K) (T : IsT G X.K ts u t) (hu : ClsV uv u) (he : RE G X W e fe) (hx : PE X (.Name x p1) (tC uv)) (hg : Gl X "isinstance") (hm : X.mg "isinstance" = none)
    (hs : starEach [e, .Name x p1] X.env = (false, eval e X.env) :: starEach [.Name x p1] X.env := by rfl) : RE G X W (.Call (.Name "isinstance" p) [e, .Name x p1] [] pos) (wUn (dIsK ts t) fe) := RE.of (RB.re_isK hK T hu he hx hg hm hs) fun r S Q E h => un_in (d := RB.dIsK ts t) (fun d S Q E h => by
  unfold dIsK at h
  unfold RB.dIsK
  split at h
  · rename_i e1
    try rw [e1]
    exact ⟨List.contains_iff_mem.mp (out_chk h).1, (out_chk h).2⟩
  · exact h.elim) h
abbrev PM := D → List D → Store → O D
structure MtL (G : Glob) (X : Cx) (id : String) (q : PM) : Prop where
  ex : ∃ d, RB.MtL G X id d ∧ ∀ d1 ds S Q E, out (q d1 ds S) Q E → d d1 ds S Q
def wBM (T : String) (q : PM) (fo : FE) (fa : FA) (r : Rho) (S : Store) : O D := (fo r S).bind fun d S1 => if tyS S1 d = some T then (fa r S1).bind fun ds S2 => q d ds S2 else .bad
theorem re_bm {T id : String} {name : Str} {q : PM} {fo : FE} {fa : FA} (hK : X.K = G.K) (pa : PlainAttrs T) (slot : Slot T name id) (hty : typeOf (.builtin id) = pure (.type "method_descriptor")) (hT : T ∈ ["str", "list", "dict"]) (hm : MtL G X id q) (ho : RE G X W o fo) (ha : RA G X W (e :: es) fa)
    (hbase : attributeBase o name X.env (eval o X.env) = eval o X.env := by rfl)
    (hfew : ((backTo pos (starEach (e :: es) X.env)).all (fun x => !x.1) && (backToKw pos (keywordEach [] X.env)).all (fun x => x.1.isSome) && decide ((e :: es).length + ([] : List Keyword).length + (if ([] : List Keyword).isEmpty then 0 else 1) < 30)) = true := by rfl)
    (hline : (apos.endLine == pos.line) = true := by rfl) (hs : starEach (e :: es) X.env = (false, eval e X.env) :: starEach es X.env := by rfl) (hplain : (backTo pos (starEach es X.env)).any (·.1) = false := by rfl) :
    RE G X W (.Call (.Attribute o name apos) (e :: es) [] pos) (wBM T q fo fa) := by
  obtain ⟨d, hd, s⟩ := hm.ex
  refine RE.of (RB.re_bm hK pa slot hty hT hd ho ha hbase hfew hline hs hplain) fun r S Q E h => ?_
  unfold wBM at h
  rw [out_bind] at h
  refine out_mono h (fun d1 S1 h => ?_) fun _ _ h => h
  split at h
  · rename_i e1
    rw [out_bind] at h
    exact ⟨e1, out_mono h (fun ds S2 h => s _ _ _ _ _ h) fun _ _ h => h⟩
  · exact h.elim
def dAppend (d : D) (ds : List D) (S : Store) : O D := match d, ds with
  | .cell n, [.p p] => match S[n]? with
    | some (.lst ps) => chk (decide (ps.length < sizeLine)) (.p .non) (S.set n (.lst (ps ++ [p])))
    | _ => .bad
  | _, _ => .bad
theorem ml_append : MtL G X "list.append" dAppend := ⟨_, RB.ml_append, fun d ds S Q E h => by
  unfold dAppend at h
  unfold RB.dAppend
  split at h
  · split at h
    · rename_i e1
      try dsimp only
      try rw [e1]
      exact ⟨by simpa [decide_eq_true_eq] using (out_chk h).1, (out_chk h).2⟩
    · exact h.elim
  · exact h.elim⟩
def mkF (o : O D) (n : Nat) : O D := match o with
  | .ok (.p .non) S1 => match S1[n]? with
    | some (.obj c' ns vs) => .ok (.p (.obj c' ns vs)) (S1.take n)
    | _ => .bad
  | .ex y S1 => .ex y (S1.take n)
  | _ => .bad
def wMake (c : String) (mf : FD) (n m : Nat) (gD : List D → List D → List D) (fa fk : FA) (r : Rho) (S : Store) : O D := (fa r S).bind fun ds S1 => (fk r S1).bind fun es S2 => if decide (ds.length = n) && decide (es.length = m) then mkF (mf (gD (.cell S2.length :: ds) es) (S2 ++ [.obj c [] []])) S2.length else .bad
theorem make_in {c : String} {mf : FD} {n m : Nat} {gD : List D → List D → List D} {fa fk : FA} {r : Rho} {S : Store} {Q : DK} {E : EK} (h : out (wMake c mf n m gD fa fk r S) Q E) : RB.wMake c (spF mf) n m gD (lf fa) (lf fk) r S Q E := by
  unfold wMake at h
  rw [out_bind] at h
  refine out_mono h (fun ds S1 h => ?_) fun _ _ h => h
  rw [out_bind] at h
  refine out_mono h (fun es S2 h => ?_) fun _ _ h => h
  split at h
  · rename_i e1
    simp only [Bool.and_eq_true] at e1
    refine ⟨of_decide_eq_true e1.1, of_decide_eq_true e1.2, ?_⟩
    unfold dMake spF
    cases e : mf (gD (.cell S2.length :: ds) es) (S2 ++ [.obj c [] []]) with
    | ok d S3 =>
      rw [e] at h
      unfold mkF at h
      split at h
      · rename_i e2
        cases e2
        split at h
        · rename_i e3
          refine ⟨rfl, ?_⟩
          try rw [e3]
          exact h
        · exact h.elim
      · rename_i e2; cases e2
      · exact h.elim
    | ex y S3 => rw [e] at h; exact h
    | bad => rw [e] at h; exact h.elim
  · exact h.elim
theorem re_makeK {q : Nat} {x : Str} {fI Cc : Addr} {fd : FuncData} {ps ks : List Str} {mf : FD} {gD : List D → List D → List D} {kws : List Keyword} {fa fk : FA} {c : String} (nc : G.cels = false) (C : CxG G X W n) (M : Mk X.K Cc fI) (F : FnG G X.prog X.w X.mg X.base k fI fd ps (spF mf)) (hk : k + 1 ≤ n) (hc : G.cls c = some Cc) (hi : G.isE c = false) (hg : Gl X x) (hm : X.mg x = some (.ref Cc)) (hb : Bd G X.K fd ps (q + 1) ks gD) (ha : RA G X W (e :: es) fa) (hkw : RK G X W kws fk)
    (hall : (backToKw pos (keywordEach kws X.env)).all (·.1.isSome) = true := by rfl) (hks : (backToKw pos (keywordEach kws X.env)).filterMap (·.1) = ks := by rfl) (hdb : (x == ("__debug__" : Str)) = false := by decide) (he : starEach (e :: es) X.env = (false, eval e X.env) :: starEach es X.env := by rfl)
    (hpl : ((backTo pos (starEach (e :: es) X.env)).any (·.1) || (backToKw pos (keywordEach kws X.env)).any (·.1.isNone)) = false := by rfl) : RE G X W (.Call (.Name x p) (e :: es) kws pos) (wMake c mf q ks.length gD fa fk) := RE.of (RB.re_makeK nc C M F hk hc hi hg hm hb ha hkw hall hks hdb he hpl) fun r S Q E h => make_in h
theorem re_make {q : Nat} {x : Str} {fI Cc : Addr} {fd : FuncData} {ps : List Str} {mf : FD} {gD : List D → List D → List D} {fa : FA} {c : String} (nc : G.cels = false) (C : CxG G X W n) (M : Mk X.K Cc fI) (F : FnG G X.prog X.w X.mg X.base k fI fd ps (spF mf)) (hk : k + 1 ≤ n) (hc : G.cls c = some Cc) (hi : G.isE c = false) (hg : Gl X x) (hm : X.mg x = some (.ref Cc)) (hb : Bd G X.K fd ps (q + 1) [] gD) (ha : RA G X W (e :: es) fa)
    (hdb : (x == ("__debug__" : Str)) = false := by decide) (he : starEach (e :: es) X.env = (false, eval e X.env) :: starEach es X.env := by rfl) (hpl : (backTo pos (starEach es X.env)).any (·.1) = false := by rfl) : RE G X W (.Call (.Name x p) (e :: es) [] pos) (wMake c mf q 0 gD fa wNil) := RE.of (RB.re_make nc C M F hk hc hi hg hm hb ha hdb he hpl) fun r S Q E h => make_in h
abbrev FTab := List (String × FD × (List D → List D))
def wMeth (m : Str) (tab : FTab) (fo : FE) (fa : FA) (r : Rho) (S : Store) : O D := (fo r S).bind fun d S0 => match objOf S0 d with
  | some (c, ns, _) => match tab.lookup c with
    | some q => if ns.contains m then .bad else (fa r S0).bind fun ds S1 => q.1 (q.2 (d :: ds)) S1
    | none => .bad
  | none => .bad
def MtC (G : Glob) (X : Cx) (n : Nat) (m : Str) (c : String) (mf : FD) (gD : List D → List D) : Prop := RB.MtC G X n m c (spF mf) gD
def frz (d : D) (S : Store) : O D := match d with
  | .p v => .ok (.p v) S
  | .cell n => match S[n]? with
    | some (.lst xs) => .ok (.p (.lst xs)) (S.set n .dead)
    | some (.dK ks vs) => .ok (.p (.dK ks vs)) (S.set n .dead)
    | some (.obj c ns vs) => .ok (.p (.obj c ns vs)) (S.set n .dead)
    | _ => .bad
  | .fn => .bad
theorem frz_ok {w : Wd} {S : Store} {H : Hp} {Q : VK} {E : EK} {d : D} {v : V} (k : Wok G w S H) (r : RepD G w v d) (h : out (frz d S) (Qv G w H Q) E) : Q v H := by
  unfold frz at h
  split at h
  · exact h v w H (Ext.refl _ _) k r
  · rename_i n
    obtain ⟨a, rfl, ha⟩ := rep_cell.mp r
    split at h
    · rename_i xs hs
      obtain ⟨hi, vs, hv, rs⟩ := k.cells n _ a hs ha
      obtain ⟨k2, x2⟩ := k.freeze hs ha hv hi
      exact h _ _ H x2 k2 (rep_lst.mpr ⟨a, vs, rfl, upd_same, rs.mono (Same.upd _ hi)⟩)
    · rename_i ks xs hs
      obtain ⟨hi, kvs, hv, e1, rs⟩ := k.cells n _ a hs ha
      obtain ⟨k2, x2⟩ := k.freeze hs ha hv hi
      refine h _ _ H x2 k2 ?_
      simp only [RepD, Rep]
      exact ⟨a, kvs, rfl, upd_same, e1, rs.mono (Same.upd _ hi)⟩
    · rename_i c ns xs hs
      obtain ⟨hi, ie, C, dx, fs, g, hv, e1, rs⟩ := k.cells n _ a hs ha
      obtain ⟨k2, x2⟩ := k.freeze hs ha hv hi
      refine h _ _ H x2 k2 ?_
      simp only [RepD, Rep]
      exact ⟨a, C, fs, rfl, g, .inl ⟨ie, dx, upd_same⟩, e1, rs.mono (Same.upd _ hi)⟩
    · exact h.elim
  · exact h.elim
def wFrz (f : FE) (r : Rho) (S : Store) : O D := (f r S).bind frz
theorem re_frz {fe : FE} (h : RE G X W e fe) : RE G X W e (wFrz fe) := by
  refine ⟨PE.imp h.pe fun σ H Q ⟨w, S, r, ok, en, q⟩ => ?_, lf_mon _⟩
  refine ⟨w, S, r, ok, en, ?_⟩
  unfold lf wFrz at q
  rw [out_bind] at q
  refine out_mono q (fun d S1 q v w1 H1 x1 k1 r1 => ?_) fun _ _ q => q
  exact frz_ok (E := Qx G w H fun c d H' => W c d σ H') k1 r1 (out_mono q (fun d S z => z.ext x1) fun _ _ z => z)
end
end RB.F
namespace RB.F
open PySem PySem.Spec PyProof.Rows L2 RB
theorem sz : sizeLine = 16777216 := (rfl)
theorem cut_p {n : Nat} {v : P} {S : Store} : cutD n (.p v) S = S.take n := (rfl)
theorem take_len {S : Store} : S.take S.length = S := List.take_length
theorem lcF_pureM {α : Type} {F : α → D} {T : Tgt} {ft : FT} {fe : FE} {r0 : Rho} {S : Store} (t : α → Bool) (g : α → P) : ∀ {xs : List α} {n : Nat}, (∀ x ∈ xs, ∃ r, bindT T (F x) r0 = some r ∧ ft r S = .ok (t x) S ∧ (t x = true → fe r S = .ok (.p (g x)) S)) → n + xs.length ≤ sizeLine →
    lcF T ft fe r0 (xs.map F) n S = .ok ((xs.filter t).map g) S
  | [], n, _, _ => rfl
  | d :: ds, n, h, hl => by
    obtain ⟨r, h1, h2, h3⟩ := h d (List.mem_cons_self ..)
    have hl : n + (ds.length + 1) ≤ sizeLine := hl
    rw [List.map_cons]
    unfold lcF
    rw [h1]
    dsimp only
    rw [h2]
    cases e : t d with
    | true =>
      dsimp only
      rw [h3 e]
      dsimp only
      have hb : decide (n < sizeLine) = true := decide_eq_true (by omega)
      rw [hb]
      dsimp only
      rw [lcF_pureM t g (xs := ds) (n := n + 1) (fun d' m => h d' (List.mem_cons_of_mem _ m)) (by omega), List.filter_cons_of_pos e]
      rfl
    | false =>
      dsimp only
      rw [lcF_pureM t g (xs := ds) (n := n) (fun d' m => h d' (List.mem_cons_of_mem _ m)) (by omega), List.filter_cons_of_neg (by simp [e])]
theorem lcF_mapM {α : Type} {F : α → D} {T : Tgt} {fe : FE} {r0 : Rho} {S : Store} (g : α → P) {xs : List α} {n : Nat} (h : ∀ x ∈ xs, ∃ r, bindT T (F x) r0 = some r ∧ fe r S = .ok (.p (g x)) S) (hl : n + xs.length ≤ sizeLine) : lcF T wYes fe r0 (xs.map F) n S = .ok (xs.map g) S := by
  rw [lcF_pureM (ft := wYes) (fun _ => true) g (fun d m => let ⟨r, h1, h2⟩ := h d m; ⟨r, h1, rfl, fun _ => h2⟩) hl, List.filter_eq_self.mpr (fun _ _ => rfl)]
theorem lcF_inv {T : Tgt} {fe : FE} {r0 : Rho} (I : Nat → Store → Prop) (A : P → Prop) : ∀ {ds : List D} {n k : Nat} {S : Store}, I (k + ds.length) S → (∀ d ∈ ds, ∀ j S, I (j + 1) S → ∃ r x S', bindT T d r0 = some r ∧ fe r S = .ok (.p x) S' ∧ I j S' ∧ A x) → n + ds.length ≤ sizeLine →
    ∃ xs S', lcF T wYes fe r0 ds n S = .ok xs S' ∧ I k S' ∧ xs.length = ds.length ∧ ∀ x ∈ xs, A x
  | [], n, k, S, h0, _, _ => ⟨[], S, rfl, h0, rfl, fun _ m => nomatch m⟩
  | d :: ds, n, k, S, h0, h, hl => by
    have hl : n + (ds.length + 1) ≤ sizeLine := hl
    obtain ⟨r, x, S1, h1, h2, h3, h4⟩ := h d (List.mem_cons_self ..) (k + ds.length) S h0
    obtain ⟨xs, S2, g1, g2, g3, g4⟩ := lcF_inv I A (ds := ds) (n := n + 1) (k := k) (S := S1) h3 (fun d' m => h d' (List.mem_cons_of_mem _ m)) (by omega)
    refine ⟨x :: xs, S2, ?_, g2, by simp [g3], fun y m => ?_⟩
    · unfold lcF
      rw [h1]
      dsimp only [wYes]
      rw [h2]
      dsimp only
      have hb : decide (n < sizeLine) = true := decide_eq_true (by omega)
      rw [hb]
      dsimp only
      rw [g1]
      rfl
    · rcases List.mem_cons.mp m with rfl | m
      · exact h4
      · exact g4 y m
theorem forF_inv {T : Tgt} {f : FS} (I : Nat → Rho → Store → Prop) : ∀ {ds : List D} {k : Nat} {r : Rho} {S : Store}, I (k + ds.length) r S → (∀ d ∈ ds, ∀ j r S, I (j + 1) r S → ∃ r1 r2 S2, bindT T d r = some r1 ∧ f r1 S = .nx r2 S2 ∧ I j r2 S2) → ∃ r' S', forF T f ds r S = .nx r' S' ∧ I k r' S'
  | [], k, r, S, h0, _ => ⟨r, S, rfl, h0⟩
  | d :: ds, k, r, S, h0, h => by
    obtain ⟨r1, r2, S2, h1, h2, h3⟩ := h d (List.mem_cons_self ..) (k + ds.length) r S h0
    obtain ⟨r', S', g1, g2⟩ := forF_inv I (ds := ds) (k := k) h3 (fun d' m => h d' (List.mem_cons_of_mem _ m))
    refine ⟨r', S', ?_, g2⟩
    unfold forF
    rw [h1]
    dsimp only
    rw [h2]
    exact g1
mutual
def peq : P → P → Bool
  | .non, .non => true
  | .bl a, .bl b => decide (a = b)
  | .bl a, .int j => decide ((if a = true then 1 else 0) = j)
  | .int i, .bl b => decide (i = if b = true then 1 else 0)
  | .int i, .int j => decide (i = j)
  | .str x, .str y => decide (x = y)
  | .lst xs, .lst ys => peqs xs ys
  | .tup xs, .tup ys => peqs xs ys
  | _, _ => false
def peqs : List P → List P → Bool
  | [], [] => true
  | x :: xs, y :: ys => peq x y && peqs xs ys
  | _, _ => false
end
mutual
def fine : Nat → P → Bool
  | _, .non => true
  | _, .bl _ => true
  | _, .int _ => true
  | _, .str x => PyData.strOk x
  | 0, .lst _ => false
  | n + 1, .lst xs => fines n xs
  | 0, .tup _ => false
  | n + 1, .tup xs => fines n xs
  | _, _ => false
def fines : Nat → List P → Bool
  | _, [] => true
  | n, x :: xs => fine n x && fines n xs
end
mutual
theorem fine_pd : ∀ {n : Nat} {a : P}, fine n a = true → ∃ e, pd a = some e ∧ PyData.canLay0 e = true ∧ e.depth ≤ n
  | _, .non, _ => ⟨_, rfl, rfl, by simp [PyData.depth]⟩
  | _, .bl _, _ => ⟨_, rfl, rfl, by simp [PyData.depth]⟩
  | _, .int _, _ => ⟨_, rfl, rfl, by simp [PyData.depth]⟩
  | _, .str x, h => ⟨_, rfl, by simpa [fine, PyData.canLay0] using h, by simp [PyData.depth]⟩
  | n + 1, .lst xs, h => by
    simp only [fine] at h
    obtain ⟨es, h1, h2, h3⟩ := fines_pd h
    exact ⟨.list es, by simp [pd, h1], by simpa [PyData.canLay0] using h2, by simp [PyData.depth]; omega⟩
  | n + 1, .tup xs, h => by
    simp only [fine] at h
    obtain ⟨es, h1, h2, h3⟩ := fines_pd h
    exact ⟨.tuple es, by simp [pd, h1], by simpa [PyData.canLay0] using h2, by simp [PyData.depth]; omega⟩
  | 0, .lst _, h => by simp [fine] at h
  | 0, .tup _, h => by simp [fine] at h
  | _, .ty _, h => by simp [fine] at h
  | _, .scr _, h => by simp [fine] at h
  | _, .dK _ _, h => by simp [fine] at h
  | _, .dT _ _, h => by simp [fine] at h
  | _, .fK _ _, h => by simp [fine] at h
  | _, .obj _ _ _, h => by simp [fine] at h
theorem fines_pd : ∀ {n : Nat} {a : List P}, fines n a = true → ∃ e, pds a = some e ∧ PyData.canLayAll0 e = true ∧ PyData.depthAll e ≤ n
  | _, [], _ => ⟨[], rfl, rfl, by simp [PyData.depthAll]⟩
  | n, x :: xs, h => by
    simp only [fines, Bool.and_eq_true] at h
    obtain ⟨e, h1, h2, h3⟩ := fine_pd h.1
    obtain ⟨es, g1, g2, g3⟩ := fines_pd h.2
    exact ⟨e :: es, by simp [pds, h1, g1], by simp [PyData.canLayAll0, h2, g2], by simp [PyData.depthAll]; omega⟩
end
mutual
theorem eqv_peq : ∀ {a b : P} {n m : Nat} {x y : PyData}, fine n a = true → fine m b = true → pd a = some x → pd b = some y → PyData.eqv x y = peq a b
  | .lst xs, b, n, m, x, y, h1, h2, h3, h4 => by
    simp only [pd, Option.map_eq_some_iff] at h3
    obtain ⟨es, e1, rfl⟩ := h3
    cases b <;> simp only [pd, Option.map_eq_some_iff, Option.some.injEq, reduceCtorEq] at h4
    case lst ys =>
      obtain ⟨fs, e2, rfl⟩ := h4
      cases n with
      | zero => simp [fine] at h1
      | succ n =>
        cases m with
        | zero => simp [fine] at h2
        | succ m =>
          simp only [fine] at h1 h2
          simp only [PyData.eqv, peq]
          exact eqvs_peq h1 h2 e1 e2
    case tup ys =>
      obtain ⟨fs, e2, rfl⟩ := h4
      simp [PyData.eqv, peq]
    case scr ys => simp [fine] at h2
    all_goals (subst h4; simp [PyData.eqv, peq])
  | .tup xs, b, n, m, x, y, h1, h2, h3, h4 => by
    simp only [pd, Option.map_eq_some_iff] at h3
    obtain ⟨es, e1, rfl⟩ := h3
    cases b <;> simp only [pd, Option.map_eq_some_iff, Option.some.injEq, reduceCtorEq] at h4
    case tup ys =>
      obtain ⟨fs, e2, rfl⟩ := h4
      cases n with
      | zero => simp [fine] at h1
      | succ n =>
        cases m with
        | zero => simp [fine] at h2
        | succ m =>
          simp only [fine] at h1 h2
          simp only [PyData.eqv, peq]
          exact eqvs_peq h1 h2 e1 e2
    case lst ys =>
      obtain ⟨fs, e2, rfl⟩ := h4
      simp [PyData.eqv, peq]
    case scr ys => simp [fine] at h2
    all_goals (subst h4; simp [PyData.eqv, peq])
  | .scr _, _, _, _, _, _, h1, _, _, _ => by simp [fine] at h1
  | .ty _, _, _, _, _, _, h1, _, _, _ => by simp [fine] at h1
  | .dK _ _, _, _, _, _, _, h1, _, _, _ => by simp [fine] at h1
  | .dT _ _, _, _, _, _, _, h1, _, _, _ => by simp [fine] at h1
  | .fK _ _, _, _, _, _, _, h1, _, _, _ => by simp [fine] at h1
  | .obj _ _ _, _, _, _, _, _, h1, _, _, _ => by simp [fine] at h1
  | .non, b, n, m, x, y, h1, h2, h3, h4 => by
    cases h3
    cases b <;> simp only [pd, Option.map_eq_some_iff, Option.some.injEq, reduceCtorEq] at h4
    case lst ys | tup ys => obtain ⟨fs, e2, rfl⟩ := h4; simp [PyData.eqv, peq]
    case scr ys => simp [fine] at h2
    all_goals (subst h4; simp [PyData.eqv, peq])
  | .bl u, b, n, m, x, y, h1, h2, h3, h4 => by
    cases h3
    cases b <;> simp only [pd, Option.map_eq_some_iff, Option.some.injEq, reduceCtorEq] at h4
    case lst ys | tup ys => obtain ⟨fs, e2, rfl⟩ := h4; simp [PyData.eqv, peq]
    case scr ys => simp [fine] at h2
    case bl v => subst h4; simp only [PyData.eqv, peq]; cases u <;> cases v <;> rfl
    case int v => subst h4; simp only [PyData.eqv, peq]; cases u <;> rfl
    all_goals (subst h4; simp [PyData.eqv, peq])
  | .int u, b, n, m, x, y, h1, h2, h3, h4 => by
    cases h3
    cases b <;> simp only [pd, Option.map_eq_some_iff, Option.some.injEq, reduceCtorEq] at h4
    case lst ys | tup ys => obtain ⟨fs, e2, rfl⟩ := h4; simp [PyData.eqv, peq]
    case scr ys => simp [fine] at h2
    case bl v => subst h4; simp only [PyData.eqv, peq]; cases v <;> rfl
    case int v => subst h4; simp only [PyData.eqv, peq]; rfl
    all_goals (subst h4; simp [PyData.eqv, peq])
  | .str u, b, n, m, x, y, h1, h2, h3, h4 => by
    cases h3
    cases b <;> simp only [pd, Option.map_eq_some_iff, Option.some.injEq, reduceCtorEq] at h4
    case lst ys | tup ys => obtain ⟨fs, e2, rfl⟩ := h4; simp [PyData.eqv, peq]
    case scr ys => simp [fine] at h2
    case str v => subst h4; simp only [PyData.eqv, peq]; rfl
    all_goals (subst h4; simp [PyData.eqv, peq])
theorem eqvs_peq : ∀ {n m : Nat} {a b : List P} {x y : List PyData}, fines n a = true → fines m b = true → pds a = some x → pds b = some y → PyData.eqvAll x y = peqs a b
  | _, _, [], [], _, _, _, _, h3, h4 => by
    simp only [pds, Option.some.injEq] at h3 h4
    subst h3; subst h4
    simp [PyData.eqvAll, peqs]
  | n, m, a :: as, b :: bs, x, y, h1, h2, h3, h4 => by
    simp only [fines, Bool.and_eq_true] at h1 h2
    obtain ⟨e, p1, _⟩ := fine_pd h1.1
    obtain ⟨es, p2, _⟩ := fines_pd h1.2
    obtain ⟨f, q1, _⟩ := fine_pd h2.1
    obtain ⟨fs, q2, _⟩ := fines_pd h2.2
    simp only [pds, p1, p2, q1, q2, Option.some.injEq] at h3 h4
    subst h3; subst h4
    simp only [PyData.eqvAll, peqs]
    rw [eqv_peq h1.1 h2.1 p1 q1, eqvs_peq h1.2 h2.2 p2 q2]
  | n, m, [], b :: bs, x, y, h1, h2, h3, h4 => by
    simp only [fines, Bool.and_eq_true] at h2
    obtain ⟨f, q1, _⟩ := fine_pd h2.1
    obtain ⟨fs, q2, _⟩ := fines_pd h2.2
    simp only [pds, q1, q2, Option.some.injEq] at h3 h4
    subst h3; subst h4
    simp [PyData.eqvAll, peqs]
  | n, m, b :: bs, [], x, y, h2, h1, h3, h4 => by
    simp only [fines, Bool.and_eq_true] at h2
    obtain ⟨f, q1, _⟩ := fine_pd h2.1
    obtain ⟨fs, q2, _⟩ := fines_pd h2.2
    simp only [pds, q1, q2, Option.some.injEq] at h3 h4
    subst h3; subst h4
    simp [PyData.eqvAll, peqs]
end
theorem eq_P {a b : P} {neg : Bool} {S : Store} (ha : fine 64 a = true) (hb : fine 64 b = true) : dEqv neg (.p a) (.p b) S = .ok (.p (.bl (if neg then !peq a b else peq a b))) S := by
  obtain ⟨e, h1, h2, h3⟩ := fine_pd ha
  obtain ⟨f, g1, g2, g3⟩ := fine_pd hb
  unfold dEqv
  show (match pd a, pd b with | some e1, some e2 => _ | _, _ => _) = _
  rw [h1, g1]
  have s1 : SeqAt.shaped e = true := by simp [SeqAt.shaped, h2, h3]
  have s2 : SeqAt.shaped f = true := by simp [SeqAt.shaped, g2, g3]
  simp only [s1, s2, Bool.and_self, chk_true, eqv_peq ha hb h1 g1]
theorem eq_ii {i j : Int} {S : Store} : dEqv false (.p (.int i)) (.p (.int j)) S = .ok (.p (.bl (decide (i = j)))) S := by rw [eq_P (by simp [fine]) (by simp [fine])]; simp [peq]
theorem ne_ii {i j : Int} {S : Store} : dEqv true (.p (.int i)) (.p (.int j)) S = .ok (.p (.bl (!decide (i = j)))) S := by rw [eq_P (by simp [fine]) (by simp [fine])]; simp [peq]
end RB.F
namespace RB.F
open PySem PySem.Spec PyProof.Rows L2 RB
def R.more (o : R) (k : Rho → Store → R) : R := match o with
  | .nx r S => k r S
  | .ct r S => k r S
  | .bk r S => .nx r S
  | .rt d S => .rt d S
  | .ex r x S => .ex r x S
  | .bad => .bad
theorem more_nx {r : Rho} {S : Store} {k : Rho → Store → R} : (R.nx r S).more k = k r S := (rfl)
theorem more_ct {r : Rho} {S : Store} {k : Rho → Store → R} : (R.ct r S).more k = k r S := (rfl)
theorem more_bk {r : Rho} {S : Store} {k : Rho → Store → R} : (R.bk r S).more k = .nx r S := (rfl)
theorem more_rt {d : D} {S : Store} {k : Rho → Store → R} : (R.rt d S).more k = .rt d S := (rfl)
theorem more_ex {r : Rho} {x : Exc} {S : Store} {k : Rho → Store → R} : (R.ex r x S).more k = .ex r x S := (rfl)
theorem forF_nil {T : Tgt} {f : FS} {r : Rho} {S : Store} : forF T f [] r S = .nx r S := (rfl)
theorem forF_cons {T : Tgt} {f : FS} {d : D} {ds : List D} {r : Rho} {S : Store} : forF T f (d :: ds) r S = match bindT T d r with
    | none => .bad
    | some r' => (f r' S).more (forF T f ds) := by
  rw [forF]
  cases bindT T d r with
  | none => rfl
  | some r' => dsimp only; cases f r' S <;> rfl
theorem get_app {S : Store} {c : Cell} : (S ++ [c])[S.length]? = some c := by simp
theorem set_app {S : Store} {c c' : Cell} : (S ++ [c]).set S.length c' = S ++ [c'] := by simp
theorem take_app {S T : Store} : (S ++ T).take S.length = S := by simp
theorem take_app2 {S : Store} {c c' : Cell} : (S ++ [c']).take (S ++ [c]).length = S ++ [c'] := by
  have : (S ++ [c]).length = (S ++ [c']).length := by simp
  rw [this, List.take_length]
theorem take_len_cons {S : Store} {c c' : Cell} : (c' :: S).take (c :: S).length = c' :: S := by simp
theorem charNat_inj {a b : Char} (h : a.toNat = b.toNat) : a = b := Char.ext (UInt32.toNat_inj.mp h)
theorem map_charNat_inj : ∀ {as bs : List Char}, as.map Char.toNat = bs.map Char.toNat → as = bs
  | [], [], _ => rfl
  | a :: as, b :: bs, h => by
    simp only [List.map_cons, List.cons.injEq] at h
    rw [charNat_inj h.1, map_charNat_inj h.2]
  | [], _ :: _, h => by cases h
  | _ :: _, [], h => by cases h
theorem of_inj {a b : String} : Str.ofString a = Str.ofString b ↔ a = b := by
  constructor
  · intro h
    rw [Str.ofString_eq_toList, Str.ofString_eq_toList] at h
    have h2 : (a.toList.map Char.toNat).toArray = (b.toList.map Char.toNat).toArray := by injection h
    have h3 := congrArg Array.toList h2
    simp only at h3
    exact String.toList_inj.mp (map_charNat_inj h3)
  · rintro rfl; rfl
theorem intsP_map {α : Type} (f : α → Int) : ∀ cs : List α, intsP (cs.map fun c => P.int (f c)) = some (cs.map f)
  | [] => rfl
  | c :: cs => by
    show (intsP (cs.map fun c => P.int (f c))).map _ = _
    rw [intsP_map f cs]
    rfl
theorem bls_map {α : Type} (f : α → Bool) : ∀ cs : List α, bls (cs.map fun c => P.bl (f c)) = some (cs.map f)
  | [] => rfl
  | c :: cs => by
    show (bls (cs.map fun c => P.bl (f c))).map _ = _
    rw [bls_map f cs]
    rfl
theorem atI0 {α : Type} {a : α} {r : List α} : atI (a :: r) 0 = some a := by
  unfold atI ixN
  rw [if_pos (Int.le_refl 0), if_pos (by rw [List.length_cons]; omega)]
  rfl
theorem atI1 {α : Type} {a b : α} {r : List α} : atI (a :: b :: r) 1 = some b := by
  unfold atI ixN
  rw [if_pos (by decide), if_pos (by simp only [List.length_cons]; omega)]
  rfl
theorem atI2 {α : Type} {a b c : α} {r : List α} : atI (a :: b :: c :: r) 2 = some c := by
  unfold atI ixN
  rw [if_pos (by decide), if_pos (by simp only [List.length_cons]; omega)]
  rfl
theorem atI3 {α : Type} {a b c d : α} {r : List α} : atI (a :: b :: c :: d :: r) 3 = some d := by
  unfold atI ixN
  rw [if_pos (by decide), if_pos (by simp only [List.length_cons]; omega)]
  rfl
theorem atI4 {α : Type} {a b c d e : α} {r : List α} : atI (a :: b :: c :: d :: e :: r) 4 = some e := by
  unfold atI ixN
  rw [if_pos (by decide), if_pos (by simp only [List.length_cons]; omega)]
  rfl
theorem atI_lt {α : Type} {xs : List α} {i : Int} (h0 : 0 ≤ i) (h1 : i < xs.length) : ∃ x, atI xs i = some x ∧ x ∈ xs := by
  obtain ⟨k, rfl⟩ := Int.eq_ofNat_of_zero_le h0
  have hk : k < xs.length := by omega
  refine ⟨xs[k], ?_, List.getElem_mem _⟩
  unfold atI ixN
  rw [if_pos h0, if_pos h1]
  simp
theorem atI_last {α : Type} {xs : List α} {x : α} : atI (xs ++ [x]) (-1) = some x := by
  unfold atI ixN
  rw [if_neg (by decide), if_pos (by simp only [List.length_append, List.length_cons, List.length_nil]; omega)]
  have : (-1 + ((xs ++ [x]).length : Int)).toNat = xs.length := by
    simp only [List.length_append, List.length_cons, List.length_nil]
    omega
  simp only [Option.bind_some, this]
  simp
theorem strOk_of {x : Str} (h : ∀ c ∈ x.cps.toList, c < 1114112) : PyData.strOk x = true := by
  unfold PyData.strOk
  rw [Array.all_eq_true]
  intro i hi
  have := h x.cps[i] (by simp)
  simpa using this
theorem cutP_1 {α : Type} {xs : List α} : cutP xs (some 1) none = xs.drop 1 := by
  unfold cutP
  rw [HT.sIx_none, show (1 : Int) = ((1 : Nat) : Int) from rfl, HT.sIx_nat]
  by_cases h : 1 ≤ xs.length
  · rw [Nat.min_eq_left h]
    exact List.take_of_length_le (by simp)
  · have : xs = [] := List.eq_nil_of_length_eq_zero (by omega)
    subst this
    rfl
end RB.F
namespace RB.F
open PySem PySem.Spec PyProof.Rows L2 RB
section
variable {p q : P2} {f f1 f2 f3 : FE} {t u : FT} {fa fk fi : FA} {r : Rho} {S : Store} {g g1 g2 : FS}
theorem nat10 : Int.natAbs 10 = 10 := (rfl)
theorem nat2 : Int.natAbs 2 = 2 := (rfl)
theorem nat64 : Int.natAbs 64 = 64 := (rfl)
theorem mkF_ex {y : Exc} {S : Store} {n : Nat} : mkF (.ex y S) n = .ex y (S.take n) := (rfl)
theorem mkF_ok {S : Store} {n : Nat} : mkF (.ok (.p .non) S) n = match S[n]? with
    | some (.obj c' ns vs) => .ok (.p (.obj c' ns vs)) (S.take n)
    | _ => .bad := (rfl)
def binK (p : P2) (f2 : FE) (r : Rho) (d1 : D) (S1 : Store) : O D := (f2 r S1).bind (p d1)
theorem wBin_e : wBin p f1 f2 r S = (f1 r S).bind (binK p f2 r) := (rfl)
def consK2 (d : D) (ds : List D) (S2 : Store) : O (List D) := .ok (d :: ds) S2
def consK (fa : FA) (r : Rho) (d : D) (S1 : Store) : O (List D) := (fa r S1).bind (consK2 d)
theorem wCons_e : wCons f fa r S = (f r S).bind (consK fa r) := (rfl)
def dispK (mk : List P → P) (ds : List D) (S1 : Store) : O D := match allP ds with
  | some ps => chk (decide (ps.length ≤ sizeLine)) (.p (mk ps)) S1
  | none => .bad
theorem wDisp_e {mk : List P → P} : wDisp mk fa r S = (fa r S).bind (dispK mk) := (rfl)
def newK (ds : List D) (S1 : Store) : O D := match allP ds with
  | some ps => chk (decide (ps.length ≤ sizeLine)) (.cell S1.length) (S1 ++ [.lst ps])
  | none => .bad
theorem wNewL_e : wNewL fa r S = (fa r S).bind newK := (rfl)
def testK (d : D) (S1 : Store) : O Bool := match d with
  | .p (.bl b) => .ok b S1
  | _ => .bad
theorem testK_e {b : Bool} : testK (.p (.bl b)) S = .ok b S := (rfl)
theorem wTest_e : wTest f r S = (f r S).bind testK := (rfl)
def andK (u : FT) (r : Rho) (b : Bool) (S1 : Store) : O Bool := if b = true then u r S1 else .ok false S1
theorem wAnd_e : wAnd t u r S = (t r S).bind (andK u r) := (rfl)
def orK (u : FT) (r : Rho) (b : Bool) (S1 : Store) : O Bool := if b = true then .ok true S1 else u r S1
theorem wOr_e : wOr t u r S = (t r S).bind (orK u r) := (rfl)
def notK (b : Bool) (S1 : Store) : O Bool := .ok (!b) S1
theorem wNot_e : wNot t r S = (t r S).bind notK := (rfl)
def andVK (f2 : FE) (r : Rho) (d : D) (S1 : Store) : O D := match d with
  | .p (.bl true) => f2 r S1
  | .p (.bl false) => .ok (.p (.bl false)) S1
  | _ => .bad
theorem andVK_t : andVK f2 r (.p (.bl true)) S = f2 r S := (rfl)
theorem andVK_f : andVK f2 r (.p (.bl false)) S = .ok (.p (.bl false)) S := (rfl)
theorem wAndV_e : wAndV f1 f2 r S = (f1 r S).bind (andVK f2 r) := (rfl)
def orVK (f2 : FE) (r : Rho) (d : D) (S1 : Store) : O D := match d with
  | .p (.bl true) => .ok (.p (.bl true)) S1
  | .p (.bl false) => f2 r S1
  | _ => .bad
theorem orVK_t : orVK f2 r (.p (.bl true)) S = .ok (.p (.bl true)) S := (rfl)
theorem orVK_f : orVK f2 r (.p (.bl false)) S = f2 r S := (rfl)
theorem wOrV_e : wOrV f1 f2 r S = (f1 r S).bind (orVK f2 r) := (rfl)
def notVK (d : D) (S1 : Store) : O D := match d with
  | .p (.bl b) => .ok (.p (.bl (!b))) S1
  | _ => .bad
theorem notVK_e {b : Bool} : notVK (.p (.bl b)) S = .ok (.p (.bl (!b))) S := (rfl)
theorem wNotV_e : wNotV f r S = (f r S).bind notVK := (rfl)
def ifEK (f1 f2 : FE) (r : Rho) (b : Bool) (S1 : Store) : O D := if b = true then f1 r S1 else f2 r S1
theorem wIf_e : wIf t f1 f2 r S = (t r S).bind (ifEK f1 f2 r) := (rfl)
def chK3 (q : P2) (f3 : FE) (r : Rho) (d2 : D) (z : D) (S3 : Store) : O D := match z with
  | .p (.bl true) => (f3 r S3).bind (q d2)
  | .p (.bl false) => .ok (.p (.bl false)) S3
  | _ => .bad
theorem chK3_t {d2 : D} : chK3 q f3 r d2 (.p (.bl true)) S = (f3 r S).bind (q d2) := (rfl)
theorem chK3_f {d2 : D} : chK3 q f3 r d2 (.p (.bl false)) S = .ok (.p (.bl false)) S := (rfl)
def chK2 (p q : P2) (f3 : FE) (r : Rho) (d1 d2 : D) (S2 : Store) : O D := (p d1 d2 S2).bind (chK3 q f3 r d2)
def chK1 (p q : P2) (f2 f3 : FE) (r : Rho) (d1 : D) (S1 : Store) : O D := (f2 r S1).bind (chK2 p q f3 r d1)
theorem wChain_e : wChain p q f1 f2 f3 r S = (f1 r S).bind (chK1 p q f2 f3 r) := (rfl)
def partK (d : D) (S1 : Store) : O (Option Int) := match d with
  | .p (.int i) => .ok (some i) S1
  | _ => .bad
theorem partK_e {i : Int} : partK (.p (.int i)) S = .ok (some i) S := (rfl)
theorem wPart_e : wPart f r S = (f r S).bind partK := (rfl)
def slK2 (d : D) (lo : Option Int) (hi : Option Int) (S3 : Store) : O D := dSl d lo hi S3
def slK1 (fh : FO) (r : Rho) (d : D) (lo : Option Int) (S2 : Store) : O D := (fh r S2).bind (slK2 d lo)
def slK (fl fh : FO) (r : Rho) (d : D) (S1 : Store) : O D := (fl r S1).bind (slK1 fh r d)
theorem wSl_e {fl fh : FO} : wSl f fl fh r S = (f r S).bind (slK fl fh r) := (rfl)
def joinK2 (a : Str) (d2 : D) (S2 : Store) : O D := dJoin (.p (.str a)) d2 S2
def joinK (f2 : FE) (r : Rho) (d1 : D) (S1 : Store) : O D := match d1 with
  | .p (.str a) => (f2 r S1).bind (joinK2 a)
  | _ => .bad
theorem wJoin_e : wJoin f1 f2 r S = (f1 r S).bind (joinK f2 r) := (rfl)
theorem joinK_e {a : Str} : joinK f2 r (.p (.str a)) S = (f2 r S).bind (joinK2 a) := (rfl)
def isi2K (T T' : String) (d : D) (S1 : Store) : O D := match tyS S1 d with
  | some t => .ok (.p (.bl (isB t T || isB t T'))) S1
  | none => .bad
theorem wIsi2_e {T T' : String} : wIsi2 T T' f r S = (f r S).bind (isi2K T T') := (rfl)
def dictK (fin : List Key → List P → Store → O D) (ps : List (D × D)) (S1 : Store) : O D := match kvsOf ps with
  | some (ks, vs) => if nodupB ks && decide (ks.length ≤ 15) then fin ks vs S1 else .bad
  | none => .bad
theorem wDict_e {fin : List Key → List P → Store → O D} {ms : List (FE × FE)} : wDict fin ms r S = (wPairs ms r S).bind (dictK fin) := (rfl)
def itK (d : D) (S1 : Store) : O (List D) := match itemsOf S1 d with
  | some ds => .ok ds S1
  | none => .bad
theorem wIt_e : wIt f r S = (f r S).bind itK := (rfl)
def rngK (ds : List D) (S1 : Store) : O (List D) := match ds with
  | [.p (.int j)] => chkA (in62 j) (rngD 0 j.toNat) S1
  | [.p (.int i), .p (.int j)] => chkA (in62 i && in62 j) (rngD i (j - i).toNat) S1
  | _ => .bad
theorem rngK_1 {j : Int} : rngK [.p (.int j)] S = chkA (in62 j) (rngD 0 j.toNat) S := (rfl)
theorem rngK_2 {i j : Int} : rngK [.p (.int i), .p (.int j)] S = chkA (in62 i && in62 j) (rngD i (j - i).toNat) S := (rfl)
theorem wRng_e : wRng fa r S = (fa r S).bind rngK := (rfl)
def zipK (ds : List D) (S1 : Store) : O (List D) := match ds with
  | [d1, d2] => match zipP d1 d2 with
    | some ds => .ok ds S1
    | none => .bad
  | _ => .bad
theorem wZip_e : wZip fa r S = (fa r S).bind zipK := (rfl)
def enumK (ds : List D) (S1 : Store) : O (List D) := match ds with
  | [.p (.lst xs)] => .ok (enumP xs) S1
  | _ => .bad
theorem enumK_e {xs : List P} : enumK [.p (.lst xs)] S = .ok (enumP xs) S := (rfl)
theorem wEnum_e : wEnum fa r S = (fa r S).bind enumK := (rfl)
def lstK (ps : List P) (S2 : Store) : O D := .ok (.p (.lst ps)) S2
def lcK (T : Tgt) (ft : FT) (fe : FE) (r0 : Rho) (ds : List D) (S1 : Store) : O D := (lcF T ft fe r0 ds 0 S1).bind lstK
theorem wLC_e {T : Tgt} {vs : List Nat} : wLC fi T t f vs r S = (fi r S).bind (lcK T t f (wipeR r vs)) := (rfl)
def retK (d : D) (S1 : Store) : R := .rt d S1
theorem wRet_e : wRet f r S = (f r S).st r retK := (rfl)
def dropK (r : Rho) (_ : D) (S1 : Store) : R := .nx r S1
theorem wDrop_e : wDrop f r S = (f r S).st r (dropK r) := (rfl)
def setK (i : Nat) (r : Rho) (d : D) (S1 : Store) : R := .nx (r.set i (some d)) S1
theorem wSet_e {i : Nat} : wSet i f r S = (f r S).st r (setK i r) := (rfl)
def ifK (g1 g2 : FS) (r : Rho) (b : Bool) (S1 : Store) : R := if b = true then g1 r S1 else g2 r S1
theorem wIfS_e : wIfS t g1 g2 r S = (t r S).st r (ifK g1 g2 r) := (rfl)
def forK (T : Tgt) (g : FS) (r : Rho) (ds : List D) (S1 : Store) : R := forF T g ds r S1
theorem wFor_e {T : Tgt} : wFor fi T g r S = (fi r S).st r (forK T g r) := (rfl)
def nextK (r : Rho) (_ : Unit) (S4 : Store) : R := .nx r S4
def putK2 (pp : D → D → D → Store → O Unit) (r : Rho) (dv d di : D) (S3 : Store) : R := (pp d di dv S3).st r (nextK r)
def putK1 (pp : D → D → D → Store → O Unit) (fi : FE) (r : Rho) (dv d : D) (S2 : Store) : R := (fi r S2).st r (putK2 pp r dv d)
def putK (pp : D → D → D → Store → O Unit) (fo fi : FE) (r : Rho) (dv : D) (S1 : Store) : R := (fo r S1).st r (putK1 pp fi r dv)
theorem wPut3_e {pp : D → D → D → Store → O Unit} {fo fi fv : FE} : wPut3 pp fo fi fv r S = (fv r S).st r (putK pp fo fi r) := (rfl)
def fsetK1 (cs : List String) (n : Str) (r : Rho) (dv d : D) (S2 : Store) : R := (dFSet cs n d dv S2).st r (nextK r)
def fsetK (cs : List String) (n : Str) (fo : FE) (r : Rho) (dv : D) (S1 : Store) : R := (fo r S1).st r (fsetK1 cs n r dv)
theorem wFSet_e {cs : List String} {n : Str} {fo fv : FE} : wFSet cs n fo fv r S = (fv r S).st r (fsetK cs n fo r) := (rfl)
def par2K (i j : Nat) (r : Rho) (ds : List D) (S1 : Store) : R := match ds with
  | [d1, d2] => .nx ((r.set i (some d1)).set j (some d2)) S1
  | _ => .bad
theorem par2K_e {i j : Nat} {d1 d2 : D} : par2K i j r [d1, d2] S = .nx ((r.set i (some d1)).set j (some d2)) S := (rfl)
theorem wPar2_e {i j : Nat} : wPar2 i j fa r S = (fa r S).st r (par2K i j r) := (rfl)
def par3K (i j l : Nat) (r : Rho) (ds : List D) (S1 : Store) : R := match ds with
  | [d1, d2, d3] => .nx (((r.set i (some d1)).set j (some d2)).set l (some d3)) S1
  | _ => .bad
theorem par3K_e {i j l : Nat} {d1 d2 d3 : D} : par3K i j l r [d1, d2, d3] S = .nx (((r.set i (some d1)).set j (some d2)).set l (some d3)) S := (rfl)
theorem wPar3_e {i j l : Nat} : wPar3 i j l fa r S = (fa r S).st r (par3K i j l r) := (rfl)
def asgK (is : List Nat) (r : Rho) (d : D) (S1 : Store) : R := match seqD S1 d with
  | some ps => if decide (ps.length = is.length) then .nx (setAll is ps r) S1 else .bad
  | none => .bad
theorem wAsgT_e {is : List Nat} : wAsgT is f r S = (f r S).st r (asgK is r) := (rfl)
def raiseK (c : String) (fs : List Str) (r : Rho) (ds : List D) (S1 : Store) : R := match allP ds with
  | some ps => if decide (ps.length = fs.length) && decide (fs.length ≤ 900) then .ex r ⟨c, fs.reverse, ps.reverse⟩ S1 else .bad
  | none => .bad
theorem wRaise_e {c : String} {fs : List Str} : wRaise c fs fa r S = (fa r S).st r (raiseK c fs r) := (rfl)
def callKK (m : FD) (gg : List D → List D) (zs : List D) (S1 : Store) : O D := m (gg zs) S1
theorem wCallK_e {m : FD} {gg : List D → List D} : wCallK m gg fk r S = (fk r S).bind (callKK m gg) := (rfl)
def bmK (T : String) (qq : PM) (fa : FA) (r : Rho) (d : D) (S1 : Store) : O D := if tyS S1 d = some T then (fa r S1).bind (qq d) else .bad
theorem wBM_e {T : String} {qq : PM} {fo : FE} : wBM T qq fo fa r S = (fo r S).bind (bmK T qq fa r) := (rfl)
def makeK2 (c : String) (mf : FD) (n m : Nat) (gD : List D → List D → List D) (ds es : List D) (S2 : Store) : O D := if decide (ds.length = n) && decide (es.length = m) then mkF (mf (gD (.cell S2.length :: ds) es) (S2 ++ [.obj c [] []])) S2.length else .bad
def makeK (c : String) (mf : FD) (n m : Nat) (gD : List D → List D → List D) (fk : FA) (r : Rho) (ds : List D) (S1 : Store) : O D := (fk r S1).bind (makeK2 c mf n m gD ds)
theorem wMake_e {c : String} {mf : FD} {n m : Nat} {gD : List D → List D → List D} : wMake c mf n m gD fa fk r S = (fa r S).bind (makeK c mf n m gD fk r) := (rfl)
def methK2 (mf : FD) (gD : List D → List D) (d : D) (ds : List D) (S1 : Store) : O D := mf (gD (d :: ds)) S1
def methK (m : Str) (tab : FTab) (fa : FA) (r : Rho) (d : D) (S0 : Store) : O D := match objOf S0 d with
  | some (c, ns, _) => match tab.lookup c with
    | some q => if ns.contains m then .bad else (fa r S0).bind (methK2 q.1 q.2 d)
    | none => .bad
  | none => .bad
theorem wMeth_e {m : Str} {tab : FTab} {fo : FE} : wMeth m tab fo fa r S = (fo r S).bind (methK m tab fa r) := (rfl)
end
end RB.F
namespace RB.F
open PySem PySem.Spec PyProof.Rows L2 RB
theorem RB.Reps.reverse {G : Glob} {I : Wd} : ∀ {ds : List P} {vs : List V}, Reps G I vs ds → Reps G I vs.reverse ds.reverse
  | [], _, h => by simp only [Reps] at h; subst h; simpa using Reps.nil
  | d :: ds, _, h => by
    simp only [Reps] at h
    obtain ⟨v, r, e', h1, h2⟩ := h
    subst e'
    rw [List.reverse_cons, List.reverse_cons]
    exact (RB.Reps.reverse h2).append (Reps.cons h1 Reps.nil)
section
variable {G : Glob} {X : Cx} {W : WX} {e : Expr} {f : FE} {r : Rho} {S : Store}
def revK (d : D) (S1 : Store) : O D := match asL S1 d with
  | some ds => .ok (.p (.lst ds.reverse)) S1
  | none => .bad
def wRevL (f : FE) (r : Rho) (S : Store) : O D := (f r S).bind revK
end
abbrev pk {α : Type} (i : Nat) (l : List α) : List α := (l.drop i).take 1
theorem vpk {i : Nat} {xs : List V} {us : List Value} (h : Vals xs us) : Vals (pk i xs) (pk i us) := (h.drop i).take 1
theorem RepDs.drop {G : Glob} {w : Wd} : ∀ {vs : List V} {ds : List D} (n : Nat), RepDs G w vs ds → RepDs G w (vs.drop n) (ds.drop n)
  | _, _, 0, h => by simpa using h
  | [], [], n + 1, h => h
  | _ :: _, _ :: _, n + 1, ⟨_, t⟩ => RepDs.drop n t
  | [], _ :: _, _ + 1, h => h.elim
  | _ :: _, [], _ + 1, h => h.elim
theorem RepDs.take {G : Glob} {w : Wd} : ∀ {vs : List V} {ds : List D} (n : Nat), RepDs G w vs ds → RepDs G w (vs.take n) (ds.take n)
  | _, _, 0, h => by simp only [List.take_zero]; trivial
  | [], [], n + 1, h => h
  | _ :: _, _ :: _, n + 1, ⟨a, t⟩ => ⟨a, RepDs.take n t⟩
  | [], _ :: _, _ + 1, h => h.elim
  | _ :: _, [], _ + 1, h => h.elim
theorem dpk {G : Glob} {w : Wd} {i : Nat} {vs : List V} {ds : List D} (h : RepDs G w vs ds) : RepDs G w (pk i vs) (pk i ds) := RepDs.take 1 (RepDs.drop i h)
def tupEB (K : PySem.W.Frag) (a : Addr) : Bool := match K.lookup a with
  | some o => decide (o.cls = .type "tuple") && (match o.data with
    | .seq its _ => decide (its.size = 0)
    | _ => false)
  | none => false
theorem tupEB_ok {G : Glob} {a : Addr} (h : tupEB G.K a = true) (w : Wd) : RepD G w (.ref a) (.p (.tup [])) := by
  unfold tupEB at h
  split at h
  · rename_i o ho
    simp only [Bool.and_eq_true, decide_eq_true_eq] at h
    obtain ⟨h1, h2⟩ := h
    split at h2
    · rename_i its n e
      have e0 := of_decide_eq_true h2
      refine rep_tup.mpr ⟨a, [], rfl, .inr ⟨o, its, n, ho, h1, e, by omega, ?_⟩, Reps.nil⟩
      have : its.toList = [] := by
        apply List.eq_nil_of_length_eq_zero
        simpa using e0
      rw [this]
      exact .nil
    · cases h2
  · cases h
section
variable {G : Glob} {X : Cx} {W : WX} {n k m : Nat} {f Cc : Addr} {fd : FuncData} {ps ks : List Str} {gD : List D → List D → List D} {x : Str} {p pos : Pos} {kws : List Keyword} {c : String}
theorem RB.re_make0 {sp : DSp} (nc : G.cels = false) (C : CxG G X W n) (M : Mk X.K Cc f) (F : FnG G X.prog X.w X.mg X.base k f fd ps sp) (hk : k + 1 ≤ n) (hc : G.cls c = some Cc) (hi : G.isE c = false) (hg : Gl X x) (hm : X.mg x = some (.ref Cc)) (hb : Bd G X.K fd ps 1 [] gD)
    (hdb : (x == ("__debug__" : Str)) = false := by decide) : RB.RE G X W (.Call (.Name x p) [] [] pos) (RB.wMake c sp 0 0 gD RB.wNil RB.wNil) := by
  obtain ⟨g, gV, hb, hr⟩ := hb
  refine ⟨⟨fun pins s σ H Q J ⟨w, S, r, ok, en, q⟩ => ?_⟩, mon_make F.mono (fun _ _ _ _ _ _ hq _ h => hq _ _ h) (fun _ _ _ _ _ _ hq _ h => hq _ _ h)⟩
  refine wpAny_Call_Name_kw (ld_glob J hg hm ?_ hdb)
  obtain ⟨l1, l2, u⟩ := q
  refine PySem.W.callWith_K0 J.kIn M.kp ?_
  refine run_mk (ks := []) (ws := []) (zs := []) (us := []) (vs := []) (m := 0) C M F hk hb J .nil .nil rfl rfl fun y dx ny nd ne => ?_
  exact make_low nc F.mono hc hi ok ny nd ne (dd := fun d => gD [d] []) (fun w' x' ry => hr w' _ _ _ _ ⟨ry, trivial⟩ trivial) u
theorem re_make0 {mf : FD} (nc : G.cels = false) (C : CxG G X W n) (M : Mk X.K Cc f) (F : FnG G X.prog X.w X.mg X.base k f fd ps (spF mf)) (hk : k + 1 ≤ n) (hc : G.cls c = some Cc) (hi : G.isE c = false) (hg : Gl X x) (hm : X.mg x = some (.ref Cc)) (hb : Bd G X.K fd ps 1 [] gD)
    (hdb : (x == ("__debug__" : Str)) = false := by decide) : RE G X W (.Call (.Name x p) [] [] pos) (wMake c mf 0 0 gD wNil wNil) := RE.of (RB.re_make0 nc C M F hk hc hi hg hm hb hdb) fun r S Q E h => make_in (fa := wNil) (fk := wNil) h
end
end RB.F
namespace RB.F
open PySem PySem.Spec PyProof.Rows L2 RB
section
variable {G : Glob} {X : Cx} {W : WX} {n k : Nat} {m : Str}
end
section
variable {G : Glob} {X : Cx} {W : WX} {e : Expr} {es : List Expr} {p : Pos}
def starK2 (ps : List P) (ds : List D) (S2 : Store) : O (List D) := .ok (ps.map D.p ++ ds) S2
def starK (t : FA) (r : Rho) (d : D) (S1 : Store) : O (List D) := match asQ S1 d with
  | some ps => (t r S1).bind (starK2 ps)
  | none => .bad
def wStar (f : FE) (t : FA) (r : Rho) (S : Store) : O (List D) := (f r S).bind (starK t r)
end
section
variable {X : Cx} {pos p : Pos}
end
end RB.F
namespace RB.F
open PySem PySem.Spec PyProof.Rows L2 RB
section
variable {G : Glob} {X : Cx} {W : WX} {e : Expr} {pos : Pos}
def starVs (n i : Nat) (ps : List P) : List P := ps.take i ++ [.lst ((ps.drop i).take (ps.length + 1 - n))] ++ (ps.drop i).drop (ps.length + 1 - n)
def asgSK (is : List Nat) (i : Nat) (r : Rho) (d : D) (S1 : Store) : R := match d with
  | .p (.tup ps) => if decide (is.length ≤ ps.length + 1) && decide (ps.length ≤ 16384) then .nx (setAll is (starVs is.length i ps) r) S1 else .bad
  | _ => .bad
def wAsgS (is : List Nat) (i : Nat) (f : FE) (r : Rho) (S : Store) : R := (f r S).st r (asgSK is i r)
def dIAdd (d1 d2 : D) (S : Store) : O D := match d1, d2 with
  | .p (.int i), .p (.int j) => .ok (.p (.int (i + j))) S
  | .p (.str a), .p (.str b) => chk (decide ((a.length + b.length) ≤ sizeLine)) (.p (.str (a ++ b))) S
  | _, _ => .bad
def augK2 (i : Nat) (r : Rho) (d : D) (S : Store) : R := .nx (r.set i (some d)) S
def augK (i : Nat) (r : Rho) (d2 : D) (S1 : Store) : R := match r[i]? with
  | some (some d1) => (dIAdd d1 d2 S1).st r (augK2 i r)
  | _ => .bad
def wAug (i : Nat) (f : FE) (r : Rho) (S : Store) : R := match r[i]? with
  | some (some _) => (f r S).st r (augK i r)
  | _ => .bad
end
end RB.F
namespace RB.F
open PySem PySem.Spec PyProof.Rows L2 RB
section
variable {prog : Program} {w : World} {A : Around} {E : Value → Shared → Prop} {s : Shared} {K : PySem.W.Frag} {x C L f : Addr} {h₀ : Heap} {m : Str → Option Value} {ox : Obj} {od : Option Obj} {b : Value} {M : Model}
end
def noX {α : Type} : O α → O α
  | .ex _ _ => .bad
  | o => o
theorem out_noX {α : Type} {o : O α} {Q : α → Store → Prop} {E E' : EK} (h : out (noX o) Q E) : out o Q E' := by
  cases o <;> first | exact h | exact h.elim
def eqOK (neg : Bool) (d : D) (S : Store) : O D := match d with
  | .p (.bl b) => .ok (.p (.bl (if neg then !b else b))) S
  | _ => .bad
def dEqO (neg : Bool) (c : String) (mf : FD) (d1 d2 : D) (S : Store) : O D := match objOf S d1, objOf S d2 with
  | some (c1, _, _), some (c2, _, _) => if c1 = c ∧ c2 = c then noX ((mf [d1, d2] S).bind (eqOK neg)) else .bad
  | _, _ => .bad
section
variable {G : Glob} {X : Cx} {W : WX} {n k : Nat}
theorem run_gA {A : Around} {f : Addr} {fd : FuncData} {ps : List Str} {sp : DSp} (C : CxG G X W n) (F : FnG G X.prog X.w X.mg X.base k f fd ps sp) (hr : Room k A) (hg : A.guards = some []) (hf : A.frames = X.A.frames) {pins : List (Addr × Obj)} {σ : L2.St} {H : Hp} {s : Shared} {Q : VK} {args : Args} {us : List Value} {vs : List V} (I : Inv X pins σ H s) (hb : BindsTo s fd args (ps.zip us)) (r : Vals vs us)
    (h : spV G sp vs H Q fun c d H' => W c d σ H') : wpAny (model X.prog X.w) A (call (.ref f) args.pos args.kw) (EP X pins σ Q) X.xe s := by
  have e := I.env0
  rw [C.hK] at e
  have e0 : Env0 X.prog X.w G.K X.mg X.base A X.stack s H := ⟨by rw [hf]; exact e.frames, e.mod, e.bs, e.bsz, e.funs, e.frf, e.hok, e.bare⟩
  refine wpAny_call (codeAny_mono (F.run A X.stack s H args us vs Q _ hr hg e0 hb r h) fun z s' hq => ?_)
  cases z with
  | error e => exact passAt C.tk σ pins H s e s' I hq
  | ok fl =>
    cases fl with
    | ret u => exact I.after hq
    | next => exact False.elim hq
    | brk => exact False.elim hq
    | cont => exact False.elim hq
structure EqC (G : Glob) (X : Cx) (n : Nat) (c : String) (mf : FD) : Prop where
  isE : G.isE c = false
  run : ∃ (C g : Addr) (fd : FuncData) (ps : List Str) (k : Nat), G.cls c = some C ∧ Meth X.K C "__eq__" g ∧ FnG G X.prog X.w X.mg X.base k g fd ps (spF mf) ∧ k + 1 ≤ n ∧ Binds X.K fd ps [] ∧
    PySem.W.findIn X.K (.ref C) "__ne__" = some (some (.builtin "object.__ne__")) ∧ PySem.W.mroIn X.K C (.type "object") = some true
theorem ol_eqO {c : String} {mf : FD} (C : CxG G X W n) (hc : EqC G X n c mf) : OpL G X (compareOp .Eq) (dEqO false c mf) := by
  refine ⟨fun d1 d2 S Q => ∀ E, out (dEqO false c mf d1 d2 S) Q E, ⟨fun pins s σ H x y v u Q I rx ry ⟨w, S, d1, d2, ok, r1, r2, q⟩ => ?_, fun d1 d2 S Q Q' hq h E => out_mono (h E) hq fun _ _ z => z⟩, fun d1 d2 S Q E h E' => ?_⟩
  · replace q := q fun _ _ => False
    unfold dEqO at q
    split at q
    · rename_i c1 n1 v1 c2 n2 v2 o1 o2
      split at q
      · rename_i hcc
        obtain ⟨rfl, h2⟩ := hcc
        subst h2
        obtain ⟨C1, g, fd, ps, k, g1, g2, g3, g4, g5, g6, g7⟩ := hc.run
        obtain ⟨a, C2, fs, e1, e2, e3, _, _⟩ := objOf_at ok r1 o1
        obtain ⟨b, C3, gs, e4, e5, e6, _, _⟩ := objOf_at ok r2 o2
        subst e1; subst e4
        rw [g1] at e2 e5
        cases e2; cases e5
        cases rx; cases ry
        rcases e3 with ⟨_, dx, e3⟩ | ⟨e0, _⟩
        · rcases e6 with ⟨_, dy, e6⟩ | ⟨e0, _⟩
          · obtain ⟨mA, J, _⟩ := ins_get I.hok e3
            obtain ⟨mB, J', _⟩ := ins_get I.hok e6
            obtain ⟨od, J, _⟩ := J.look
            obtain ⟨od', J', _⟩ := J'.look
            show wpAny (model X.prog X.w) X.A (richCompare .Eq (.ref a) (.ref b)) (EP X pins σ Q) X.xe s
            obtain ⟨mm, hF⟩ := I.fr
            refine PySem.W.cmp_K (op := .Eq) (tb := .ref C1) C.rm.units0 hF I.ok.mod.kin J J'.type (by simp [PySem.W.notFirst]) g2.at_ g2.fn ?_
            have r2' : Vals [V.ref a, V.ref b] [Value.ref a, Value.ref b] := .cons rfl (.cons rfl .nil)
            have q2 := out_noX (E' := Qx G w H fun c d H' => W c d σ H') q
            rw [out_bind] at q2
            have sv : spV G (spF mf) [.ref a, .ref b] H (fun v H' => ∃ r, v = .bl r ∧ Q (.bl r) H') fun c d H' => W c d σ H' := ⟨w, S, [d1, d2], ok, ⟨r1, r2, trivial⟩, out_mono q2 (fun d S1 z v w' H' x1 k1 rd => by
              unfold eqOK at z
              split at z
              · rename_i b
                exact ⟨b, rep_bl.mp rd, z (.bl b) w' H' x1 k1 (rep_bl.mpr rfl)⟩
              · exact z.elim) fun _ _ z => z⟩
            have hl : [Value.ref a, Value.ref b].length = ps.length := by
              obtain ⟨w3, S3, es3, _, rd3, q3⟩ := id sv
              rw [← r2'.length, rd3.length]
              exact g3.len _ _ _ _ q3
            refine wpAny_mono (run_gA (args := ⟨[.ref a, .ref b], []⟩) C g3 (C.rm.mono (Nat.le_of_succ_le g4)) C.gd rfl I (by
              have := g5 s [.ref a, .ref b] I.kIn (by simpa using hl)
              simpa using this) r2' sv) (fun u s' ⟨v, H', I', rv, r, e, z⟩ => ?_) fun _ _ z => z
            subst e
            cases rv
            exact ⟨.bl r, H', I', rfl, z⟩
          · rw [hc.isE] at e0; cases e0
        · rw [hc.isE] at e0; cases e0
      · exact q.elim
    · exact q.elim
  · unfold dEqO at h ⊢
    split at h
    · split at h
      · rename_i hcc
        rw [if_pos hcc]
        revert h
        generalize (mf [d1, d2] S).bind (eqOK false) = o
        intro h
        cases o <;> first | exact h | exact h.elim
      · exact h.elim
    · exact h.elim
theorem eqC_mk {c : String} {mf : FD} {Cc f : Addr} {fd : FuncData} {ps : List Str} (C : CxG G X W n) (hc : G.cls c = some Cc) (hi : G.isE c = false) (me : Meth G.K Cc "__eq__" f) (hne : PySem.W.findIn G.K (.ref Cc) "__ne__" = some (some (.builtin "object.__ne__"))) (hm : PySem.W.mroIn G.K Cc (.type "object") = some true) (F : FnG G X.prog X.w X.mg X.base k f fd ps (spF mf)) (hk : k + 1 ≤ n) (hb : Binds G.K fd ps []) : EqC G X n c mf := by
  have e := C.hK
  exact ⟨hi, Cc, f, fd, ps, k, hc, by rw [e]; exact me, F, hk, by rw [e]; exact hb, by rw [e]; exact hne, by rw [e]; exact hm⟩
def neB (K : PySem.W.Frag) (C : Addr) : Bool := (match PySem.W.findIn K (.ref C) "__ne__" with | some (some (.builtin id)) => id == "object.__ne__" | _ => false) && (match PySem.W.mroIn K C (.type "object") with | some b => b | none => false)
theorem neB_ok {K : PySem.W.Frag} {C : Addr} (h : neB K C = true) : PySem.W.findIn K (.ref C) "__ne__" = some (some (.builtin "object.__ne__")) ∧ PySem.W.mroIn K C (.type "object") = some true := by
  unfold neB at h
  obtain ⟨h1, h2⟩ := Bool.and_eq_true_iff.mp h
  refine ⟨?_, ?_⟩
  · split at h1
    · rename_i e
      rw [e, beq_iff_eq.mp h1]
    · cases h1
  · split at h2
    · rename_i e
      rw [e, h2]
    · cases h2
structure SpC (G : Glob) (X : Cx) (n : Nat) (m : Str) (c : String) (mf : FD) : Prop where
  isE : G.isE c = false
  run : ∃ (C g : Addr) (fd : FuncData) (ps : List Str) (k : Nat), G.cls c = some C ∧ Meth X.K C m g ∧ FnG G X.prog X.w X.mg X.base k g fd ps (spF mf) ∧ k + 1 ≤ n ∧ Binds X.K fd ps []
def iscB (K : PySem.W.Frag) (C : Addr) : Bool := (PySem.W.clsIn K C).isSome && ((match PySem.W.findIn K (.ref C) "__getattr__" with | some none => true | _ => false) && ((match PySem.W.findIn K (.ref C) "__class__" with | some (some (.builtin id)) => id == "object.__class__" | _ => false) &&
  ((match PySem.W.specialIn K (.builtin "object.__class__") "__get__" with | some (some (.builtin id)) => id == "getset_descriptor.__get__" | _ => false) && ((match PySem.W.takesIn K (.builtin "object.__class__") with | some b => b | none => false) && (match PySem.W.mroIn K C (.type "object") with | some b => b | none => false)))))
theorem iscB_ok {K : PySem.W.Frag} {C : Addr} (h : iscB K C = true) : IsC K C := by
  unfold iscB at h
  obtain ⟨h1, h⟩ := Bool.and_eq_true_iff.mp h
  obtain ⟨h2, h⟩ := Bool.and_eq_true_iff.mp h
  obtain ⟨h3, h⟩ := Bool.and_eq_true_iff.mp h
  obtain ⟨h4, h⟩ := Bool.and_eq_true_iff.mp h
  obtain ⟨h5, h6⟩ := Bool.and_eq_true_iff.mp h
  refine ⟨h1, ?_, ?_, ?_, ?_, ?_⟩
  · split at h2
    · assumption
    · cases h2
  · split at h3
    · rename_i e
      rw [e, beq_iff_eq.mp h3]
    · cases h3
  · split at h4
    · rename_i e
      rw [e, beq_iff_eq.mp h4]
    · cases h4
  · split at h5
    · rename_i e
      rw [e, h5]
    · cases h5
  · split at h6
    · rename_i e
      rw [e, h6]
    · cases h6
def kitB (K : PySem.W.Frag) (v u : Value) (b : Bool) : Bool := match PySem.W.kitOne K v u with
  | some r => r == b
  | none => false
theorem kitB_ok {K : PySem.W.Frag} {v u : Value} {b : Bool} (h : kitB K v u b = true) : PySem.W.kitOne K v u = some b := by
  unfold kitB at h
  split at h
  · rename_i e
    rw [e, beq_iff_eq.mp h]
  · cases h
def bltB (K : PySem.W.Frag) (u : Value) (t : String → Bool) : Bool := ["NoneType", "bool", "int", "str", "tuple", "list", "dict"].all fun c => kitB K (.type c) u (t c)
end
end RB.F
namespace RB.F
open PySem PySem.Spec PyProof.Rows L2 RB
section
variable {S : Store} {i j : Int} {z z' : Str} {ds es : List P} {n : Nat} {lo hi : Option Int} {c : String} {ns : List Str} {ks : List Key} {b : Bool} {t : String} {d : D}
def ixO (o : Option P) (S : Store) : O D := match o with
  | some d => .ok (.p d) S
  | none => .bad
theorem ixO_s {v : P} : ixO (some v) S = .ok (.p v) S := (rfl)
def ixC (o : Option Nat) (z : Str) (S : Store) : O D := match o with
  | some c => chk (decide (z.length ≤ sizeLine)) (.p (.str ⟨#[c]⟩)) S
  | none => .bad
theorem ixC_s {c : Nat} : ixC (some c) z S = chk (decide (z.length ≤ sizeLine)) (.p (.str ⟨#[c]⟩)) S := (rfl)
def ixL (o : Option (List P)) (i : Int) (S : Store) : O D := match o with
  | some ds => ixO (atI ds i) S
  | none => .bad
theorem ixL_s : ixL (some ds) i S = ixO (atI ds i) S := (rfl)
theorem dIx_s : dIx (.p (.str z)) (.p (.int i)) S = ixC (atI z.cps.toList i) z S := (rfl)
theorem dIx_t : dIx (.p (.tup ds)) (.p (.int i)) S = ixO (atI ds i) S := (rfl)
theorem dIx_l : dIx (.p (.lst ds)) (.p (.int i)) S = ixO (atI ds i) S := (rfl)
theorem dIx_r : dIx (.p (.scr ds)) (.p (.int i)) S = ixO (atI ds i) S := (rfl)
theorem dIx_c : dIx (.cell n) (.p (.int i)) S = ixL (asL S (.cell n)) i S := (rfl)
theorem asL_l : asL S (.p (.lst ds)) = some ds := (rfl)
theorem asL_r : asL S (.p (.scr ds)) = some ds := (rfl)
def cellL (o : Option Cell) : Option (List P) := match o with
  | some (.lst ds) => some ds
  | _ => none
theorem cellL_s : cellL (some (.lst ds)) = some ds := (rfl)
theorem asL_c : asL S (.cell n) = cellL S[n]? := (rfl)
theorem asL_t : asL S (.p (.tup ds)) = none := (rfl)
theorem asL_z : asL S (.p (.str z)) = none := (rfl)
theorem asL_n : asL S (.p .non) = none := (rfl)
theorem asL_i : asL S (.p (.int i)) = none := (rfl)
theorem asL_b : asL S (.p (.bl b)) = none := (rfl)
theorem asL_d {vs : List P} : asL S (.p (.dK ks vs)) = none := (rfl)
theorem asM_l : asM S (.p (.lst ds)) = some ds := (rfl)
theorem asM_c : asM S (.cell n) = cellL S[n]? := (rfl)
theorem asQ_t : asQ S (.p (.tup ds)) = some ds := (rfl)
theorem asQ_l : asQ S (.p (.lst ds)) = some ds := (rfl)
theorem asQ_r : asQ S (.p (.scr ds)) = some ds := (rfl)
theorem asQ_c : asQ S (.cell n) = cellL S[n]? := (rfl)
def lenL (o : Option (List P)) (S : Store) : O D := match o with
  | some ds => .ok (.p (.int ds.length)) S
  | none => .bad
theorem lenL_s : lenL (some ds) S = .ok (.p (.int ds.length)) S := (rfl)
theorem dLen_s : dLen (.p (.str z)) S = chk (decide (z.length ≤ sizeLine)) (.p (.int z.length)) S := (rfl)
theorem dLen_t : dLen (.p (.tup ds)) S = .ok (.p (.int ds.length)) S := (rfl)
theorem dLen_l : dLen (.p (.lst ds)) S = .ok (.p (.int ds.length)) S := (rfl)
theorem dLen_r : dLen (.p (.scr ds)) S = .ok (.p (.int ds.length)) S := (rfl)
theorem dLen_c : dLen (.cell n) S = lenL (cellL S[n]?) S := (rfl)
def slL (o : Option (List P)) (lo hi : Option Int) (S : Store) : O D := match o with
  | some ds => .ok (.p (.lst (cutP ds lo hi))) S
  | none => .bad
theorem slL_s : slL (some ds) lo hi S = .ok (.p (.lst (cutP ds lo hi))) S := (rfl)
theorem dSl_s : dSl (.p (.str z)) lo hi S = chk (decide (z.length ≤ sizeLine)) (.p (.str (cutS z lo hi))) S := (rfl)
theorem dSl_t : dSl (.p (.tup ds)) lo hi S = .ok (.p (.tup (cutP ds lo hi))) S := (rfl)
theorem dSl_l : dSl (.p (.lst ds)) lo hi S = .ok (.p (.lst (cutP ds lo hi))) S := (rfl)
theorem dSl_r : dSl (.p (.scr ds)) lo hi S = .ok (.p (.lst (cutP ds lo hi))) S := (rfl)
theorem dSl_c : dSl (.cell n) lo hi S = slL (cellL S[n]?) lo hi S := (rfl)
theorem dAdd_i : dAdd (.p (.int i)) (.p (.int j)) S = .ok (.p (.int (i + j))) S := (rfl)
theorem dAdd_s : dAdd (.p (.str z)) (.p (.str z')) S = chk (decide ((z.length + z'.length) ≤ sizeLine)) (.p (.str (z ++ z'))) S := (rfl)
theorem dAdd_t : dAdd (.p (.tup ds)) (.p (.tup es)) S = chk (decide ((ds.length + es.length) ≤ sizeLine)) (.p (.tup (ds ++ es))) S := (rfl)
theorem dAdd_l : dAdd (.p (.lst ds)) (.p (.lst es)) S = chk (decide ((ds.length + es.length) ≤ sizeLine)) (.p (.lst (ds ++ es))) S := (rfl)
def addL (o o' : Option (List P)) (S : Store) : O D := match o, o' with
  | some a, some b => chk (decide ((a.length + b.length) ≤ sizeLine)) (.p (.lst (a ++ b))) S
  | _, _ => .bad
theorem addL_s : addL (some ds) (some es) S = chk (decide ((ds.length + es.length) ≤ sizeLine)) (.p (.lst (ds ++ es))) S := (rfl)
theorem dAdd_cl : dAdd (.cell n) (.p (.lst es)) S = addL (cellL S[n]?) (some es) S := (rfl)
theorem dAdd_lc : dAdd (.p (.lst ds)) (.cell n) S = addL (some ds) (cellL S[n]?) S := (rfl)
def joinO (a : Str) (o : Option (List P)) (S : Store) : O D := match o with
  | some ds => (match strsP ds with
    | some ys => chk (decide (((ys.map (·.length)).sum + ys.length * a.length) ≤ 16777216)) (.p (.str (Txt.join a ys))) S
    | none => .bad)
  | none => .bad
theorem joinO_s : joinO z (some ds) S = match strsP ds with
    | some ys => chk (decide (((ys.map (·.length)).sum + ys.length * z.length) ≤ 16777216)) (.p (.str (Txt.join z ys))) S
    | none => .bad := (rfl)
theorem dJoin_e : dJoin (.p (.str z)) d S = joinO z (asQ S d) S := by
  unfold dJoin joinO
  cases asQ S d <;> rfl
theorem b1_1 {p : D → Store → O D} {d : D} : b1 p [d] S = p d S := (rfl)
theorem b2_2 {p : P2} {d d' : D} : b2 p [d, d'] S = p d d' S := (rfl)
theorem methK2_e {mf : FD} {gD : List D → List D} {d : D} {ds : List D} : methK2 mf gD d ds S = mf (gD (d :: ds)) S := (rfl)
theorem callKK_e {m : FD} {gg : List D → List D} {zs : List D} : callKK m gg zs S = m (gg zs) S := (rfl)
theorem slK2_e : slK2 d lo hi S = dSl d lo hi S := (rfl)
theorem joinK2_e : joinK2 z d S = dJoin (.p (.str z)) d S := (rfl)
end
end RB.F
namespace RB.F
open PySem PySem.Spec PyProof.Rows L2 RB
section
variable {G : Glob} {X : Cx} {W : WX} {e a b c o : Expr} {f : Str} {pos apos : Pos} {fe : FE}
def conB (K : PySem.W.Frag) (C : Addr) (f : Str) (i : Int) : Bool := (match PySem.W.findIn K (.ref C) f with
  | some (some (.int j t)) => decide (j = i) && (match PySem.W.specialIn K (.int j t) "__get__" with | some none => true | _ => false)
  | _ => false) && !PySem.W.copiedNames.contains f
theorem conB_ok {K : PySem.W.Frag} {C : Addr} {f : Str} {i : Int} (h : conB K C f i = true) : ∃ u, Con K C f (.int i) u := by
  unfold conB at h
  obtain ⟨h1, h2⟩ := Bool.and_eq_true_iff.mp h
  split at h1
  · rename_i j t e
    obtain ⟨h3, h4⟩ := Bool.and_eq_true_iff.mp h1
    have h3 := of_decide_eq_true h3
    subst h3
    split at h4
    · rename_i e2
      exact ⟨_, e, ⟨t, rfl⟩, e2, by simpa using h2⟩
    · cases h4
  · cases h1
def dCon (cs : List String) (f : Str) (i : Int) (d : D) (S : Store) : O D := match objOf S d with
  | some (c, ns, _) => if cs.contains c && !ns.contains f then .ok (.p (.int i)) S else .bad
  | none => .bad
theorem lookup_none {f : Str} {α : Type} : ∀ {fs : List (Str × α)}, f ∉ fs.map (·.1) → fs.lookup f = none
  | [], _ => rfl
  | (k, v) :: fs, h => by
    simp only [List.map_cons, List.mem_cons, not_or] at h
    rw [List.lookup_cons]
    have : (f == k) = false := by simpa using h.1
    rw [this]
    exact lookup_none h.2
theorem re_con {cs : List String} {i : Int} (hK : X.K = G.K) (hc : ∀ c ∈ cs, ∀ C, G.cls c = some C → Cls G.K C ∧ G.isE c = false ∧ conB G.K C f i = true) (he : RE G X W e fe) (hb : attributeBase e f X.env (eval e X.env) = eval e X.env := by rfl) :
    RE G X W (.Attribute e f pos) (wUn (dCon cs f i) fe) := by
  refine ⟨PE.imp (pe_con he.pe hb) fun σ H Q ⟨w, S, ρ, ok, en, q⟩ => ?_, lf_mon _⟩
  unfold lf wUn at q
  rw [out_bind] at q
  refine tM.bind (lf_mon fe) ok en q (fun _ _ _ z => z) fun d S' v w' H' x k r1 q => ?_
  unfold dCon at q
  split at q
  · rename_i cn ns vs o1
    split at q
    · rename_i hh
      obtain ⟨h1, h2⟩ := Bool.and_eq_true_iff.mp hh
      obtain ⟨a, C, fs, e1, e2, e3, e4, e5⟩ := objOf_at k r1 o1
      subst e1
      obtain ⟨c1, c2, c3⟩ := hc cn (List.contains_iff_mem.mp h1) C e2
      obtain ⟨u, cu⟩ := conB_ok c3
      rcases e3 with ⟨_, dx, e3⟩ | ⟨e0, _⟩
      · refine ⟨a, C, dx, fs, .int i, u, rfl, e3, by rw [hK]; exact c1, by rw [hK]; exact cu, lookup_none ?_, q _ w' H' x k (rep_int.mpr rfl)⟩
        rw [e4]
        intro z
        rw [List.contains_iff_mem.mpr z] at h2
        cases h2
      · rw [c2] at e0; cases e0
    · exact q.elim
  · exact q.elim
def rngN (hi : Int) (n : Nat) : List D := (List.range n).map fun (i : Nat) => D.p (.int (hi + (i : Int) * (-1)))
def rngWK (ds : List D) (S1 : Store) : O (List D) := match ds with
  | [.p (.int i), .p (.int j)] => .ok (rngD i (j - i).toNat) S1
  | _ => .bad
theorem rngWK_e {i j : Int} {S : Store} : rngWK [.p (.int i), .p (.int j)] S = .ok (rngD i (j - i).toNat) S := (rfl)
def wRngW (fa : FA) (r : Rho) (S : Store) : O (List D) := (fa r S).bind rngWK
def rngNK (ds : List D) (S1 : Store) : O (List D) := match ds with
  | [.p (.int i), .p (.int j), .p (.int c)] => chkA (decide (c = -1)) (rngN i (i - j).toNat) S1
  | _ => .bad
theorem rngNK_e {i j : Int} {S : Store} : rngNK [.p (.int i), .p (.int j), .p (.int (-1))] S = .ok (rngN i (i - j).toNat) S := (rfl)
def wRngN (fa : FA) (r : Rho) (S : Store) : O (List D) := (fa r S).bind rngNK
def dInsert (d : D) (ds : List D) (S : Store) : O D := match d, ds with
  | .cell n, [.p (.int i), .p p] => match S[n]? with
    | some (.lst ps) => chk (decide (ps.length < sizeLine) && (decide (0 ≤ i) && decide (i < 2 ^ 63))) (.p .non) (S.set n (.lst (ps.take i.toNat ++ [p] ++ ps.drop i.toNat)))
    | _ => .bad
  | _, _ => .bad
def bm0K (T : String) (q : PM) (d : D) (S1 : Store) : O D := if tyS S1 d = some T then q d [] S1 else .bad
def wBM0 (T : String) (q : PM) (fo : FE) (r : Rho) (S : Store) : O D := (fo r S).bind (bm0K T q)
def dClear (d : D) (ds : List D) (S : Store) : O D := match d, ds with
  | .cell n, [] => match S[n]? with
    | some (.lst _) => .ok (.p .non) (S.set n (.lst []))
    | _ => .bad
  | _, _ => .bad
end
end RB.F
namespace RB.F
open PySem PySem.Spec PyProof.Rows L2 RB
inductive BaseK : String → String → String → List Value → Prop
  | value : BaseK "ValueError" "ValueError.__new__" "ValueError.__init__" [.type "ValueError", .type "Exception", .type "BaseException", .type "object"]
  | index : BaseK "IndexError" "IndexError.__new__" "IndexError.__init__" [.type "IndexError", .type "LookupError", .type "Exception", .type "BaseException", .type "object"]
  | lookup : BaseK "LookupError" "LookupError.__new__" "LookupError.__init__" [.type "LookupError", .type "Exception", .type "BaseException", .type "object"]
  | overflow : BaseK "OverflowError" "OverflowError.__new__" "OverflowError.__init__" [.type "OverflowError", .type "ArithmeticError", .type "Exception", .type "BaseException", .type "object"]
  | runtime : BaseK "RuntimeError" "RuntimeError.__new__" "RuntimeError.__init__" [.type "RuntimeError", .type "Exception", .type "BaseException", .type "object"]
theorem BaseK.facts {b nw ini : String} {tl : List Value} (h : BaseK b nw ini tl) : ExcBaseFacts b nw ini tl := by
  cases h
  · exact PySem.F.excBase_ValueError
  · exact PySem.F.excBase_IndexError
  · exact PySem.F.excBase_LookupError
  · exact PySem.F.excBase_OverflowError
  · exact PySem.F.excBase_RuntimeError
structure OexG (K : PySem.W.Frag) (C : Addr) : Prop where
  at_ : ∃ b nw ini tl, BaseK b nw ini tl ∧ ∃ nm qn N bs sn sb ab cl dd y0 y1 y2 y3 y5, K.lookup C = some (excClassObj nm qn C N bs tl true sn sb ab cl dd y0 y1 y2 y3 y5 nw)
  sa : PySem.W.findIn K (.ref C) "__setattr__" = some (some (.builtin "object.__setattr__"))
  exC : PySem.W.subIn K (.ref C) (.type "BaseException") = some true
  tyC : PySem.W.typeIn K (.ref C) = some (.type "type")
  kC : PySem.W.keepIn K (.ref C) = true
section
open Builtin Builtin.ObjectAttr
variable {prog : Program} {w : World} {A : Around} {R : Result → Shared → Prop} {h0 : Heap} {gs : Array GenState} {dr : Drawn} {n0 : Nat} {os : OsState}
end
section
variable {X : Cx} {pins : List (Addr × Obj)} {σ : L2.St} {H : Hp} {s : Shared} {a C : Addr} {f : Str} {y : V} {u : Value} {Q : Unit → Shared → Prop} {E : Value → Shared → Prop} {A : Around}
end
section
variable {X : Cx} {o e : Expr} {f : Str} {p' pos : Pos} {to te : TE}
end
section
variable {P : Program} {w : World} {K : PySem.W.Frag} {mg : Str → Option Value} {base : Heap} {x qual : Str} {params : Arguments} {scope : Scope} {dvs : List V} {kws : List (Str × V)} {f : Addr} {fd : FuncData}
end
end RB.F
namespace RB.F
open PySem PySem.Spec PyProof.Rows L2 RB
end RB.F
namespace RB.F
open PySem PySem.Spec PyProof.Rows L2 RB
section
variable {X : Cx} {e : Expr} {es : List Expr} {ta : TA} {p pos : Pos}
end
structure ExG (K : PySem.W.Frag) (C fI : Addr) (f : Str) : Prop where
  T : OexG K C
  i : PySem.W.findIn K (.ref C) "__init__" = some (some (.ref fI))
  t : PySem.W.typeIn K (.ref fI) = some (.type "function")
  no : PySem.W.findIn K (.ref C) f = some none
section
variable {G : Glob} {X : Cx} {W : WX} {n k : Nat} {fI Cc : Addr} {fd : FuncData} {ps : List Str} {f x : Str} {p pos pos' : Pos} {e : Expr} {es : List Expr} {fa : FA} {c : String}
end
end RB.F
namespace RB.F
open PySem PySem.Spec PyProof.Rows L2 RB
section
variable {G : Glob} {X : Cx} {W : WX} {n k : Nat} {a b : Expr} {pos : Pos} {f1 f2 : FE}
def OpX (G : Glob) (X : Cx) (W : WX) (g : Value → Value → Sem Value) (f : P2) : Prop :=
  ∀ (pins : List (Addr × Obj)) (s : Shared) (σ : L2.St) (H : Hp) (x y : V) (v u : Value) (Q : VK), Inv X pins σ H s → RelV x v → RelV y u →
    (∃ w S d1 d2, Wok G w S H ∧ RepD G w x d1 ∧ RepD G w y d2 ∧ out (f d1 d2 S) (Qv G w H Q) (Qx G w H fun c d H' => W c d σ H')) → wpAny (model X.prog X.w) X.A (g v u) (EP X pins σ Q) X.xe s
theorem binX {f : P2} {g : Value → Value → Sem Value} (ho : OpX G X W g f) (ha : RE G X W a f1) (hb : RE G X W b f2) {pins : List (Addr × Obj)} {s : Shared} {σ : L2.St} {H : Hp} {Q : VK} (I : Inv X pins σ H s) (q : tM G W (lf (wBin f f1 f2)) σ H Q) :
    wpAny (model X.prog X.w) X.A (eval a X.env) (fun v s₁ => wpAny (model X.prog X.w) X.A (eval b X.env) (fun u s₂ => wpAny (model X.prog X.w) X.A (g v u) (EP X pins σ Q) X.xe s₂) X.xe s₁) X.xe s := by
  obtain ⟨w, S, r, ok, en, q⟩ := q
  unfold lf wBin at q
  rw [out_bind] at q
  have q' : lf f1 r S (fun d1 S1 => lf f2 r S1 (fun d2 S2 => out (f d1 d2 S2) (Qv G w H Q) (Qx G w H fun c d H' => W c d σ H')) (Qx G w H fun c d H' => W c d σ H')) (Qx G w H fun c d H' => W c d σ H') :=
    out_mono q (fun d1 S1 h => by rw [out_bind] at h; exact h) fun _ _ z => z
  refine binT (R := fun x y H' => ∃ w S d1 d2, Wok G w S H' ∧ RepD G w x d1 ∧ RepD G w y d2 ∧ out (f d1 d2 S) (Qv G w H' Q) (Qx G w H' fun c d H' => W c d σ H')) ha.pe hb.pe I ?_ fun v u s2 x y H2 I2 rx ry q => ho pins s2 σ H2 x y v u Q I2 rx ry q
  exact tM2 ha.mono hb.mono ok en q' fun d1 d2 S' x y w' H' x1 k r1 r2 q => ⟨w', S', d1, d2, k, r1, r2, out_mono q (fun d S z => z.ext x1) fun x S z => z.ext x1⟩
theorem re_cmpX {op : CmpOp} {f : P2} (ho : OpX G X W (compareOp op) f) (ha : RE G X W a f1) (hb : RE G X W b f2) (hm : behindInMarks op b = false) : RE G X W (.Compare a [op] [b] pos) (wBin f f1 f2) :=
  ⟨⟨fun pins s σ H Q I q => wpAny_Compare1 (binX ho ha hb I q) hm⟩, lf_mon _⟩
theorem run_two {A : Around} {f : Addr} {fd : FuncData} {ps : List Str} {mf : FD} (C : CxG G X W n) (F : FnG G X.prog X.w X.mg X.base k f fd ps (spF mf)) (hr : Room k A) (hg : A.guards = some []) (hf : A.frames = X.A.frames) (hb : Binds X.K fd ps []) {pins : List (Addr × Obj)} {σ : L2.St} {H : Hp} {s : Shared} {Q : VK} {v u : Value} {x y : V} (I : Inv X pins σ H s) (rx : RelV x v) (ry : RelV y u)
    {w : Wd} {S : Store} {d1 d2 : D} (ok : Wok G w S H) (r1 : RepD G w x d1) (r2 : RepD G w y d2) (q : out (mf [d1, d2] S) (Qv G w H Q) (Qx G w H fun c d H' => W c d σ H')) :
    wpAny (model X.prog X.w) A (call (.ref f) [v, u]) (EP X pins σ Q) X.xe s := by
  have rv : Vals [x, y] [v, u] := .cons rx (.cons ry .nil)
  have sv : spV G (spF mf) [x, y] H Q fun c d H' => W c d σ H' := ⟨w, S, [d1, d2], ok, ⟨r1, r2, trivial⟩, q⟩
  have hl : [v, u].length = ps.length := by
    obtain ⟨w3, S3, es3, _, rd3, q3⟩ := id sv
    rw [← rv.length, rd3.length]
    exact F.len _ _ _ _ q3
  exact run_gA (args := ⟨[v, u], []⟩) C F hr hg hf I (by
    have := hb s [v, u] I.kIn (by simpa using hl)
    simpa using this) rv sv
theorem bo_ValueError : bootBuiltins (Str.ofString "ValueError") = some (.type "ValueError") := by decide +kernel
theorem isT_mk2 {K : PySem.W.Frag} {ts : List String} {u : Value} {t : String → Bool} (hown : ∀ c ∈ ts, ∀ C, G.cls c = some C → iscB K C = true ∧ ((G.isE c = false ∧ Cls K C) ∨ G.isE c = true ∧ xfB K C = true) ∧ kitB K (.ref C) u (t c) = true) (hb : bltB K u t = true) : IsT G K ts u t := by
  refine ⟨fun c m C h => ?_, fun c _ m => ?_⟩
  · obtain ⟨h1, h2, h4⟩ := hown c m C h
    refine ⟨iscB_ok h1, fun e => ?_, fun e => ?_, kitB_ok h4⟩
    · rcases h2 with ⟨h2, _⟩ | ⟨_, h3⟩
      · rw [h2] at e; cases e
      · exact xfB_ok h3
    · rcases h2 with ⟨_, h3⟩ | ⟨h2, _⟩
      · exact h3
      · rw [h2] at e; cases e
  · exact kitB_ok (List.all_eq_true.mp hb c m)
end
end RB.F
namespace HT
open PySem PySem.Spec PyProof.Rows
section
variable {prog : Program} {w : World} {A : Around} {E : Value → Shared → Prop} {s : Shared}
end
end HT
namespace RB.F
open PySem PySem.Spec PyProof.Rows L2 RB
section
variable {X : Cx}
end
section
variable {G : Glob} {X : Cx} {W : WX} {e : Expr} {f : FE} {r : Rho} {S : Store}
end
section
variable {G : Glob} {X : Cx} {W : WX} {n k : Nat} {o : Expr} {m : Str} {apos pos : Pos} {kws : List Keyword} {c : String} {mf : FD} {gD : List D → List D → List D} {fo : FE} {fk : FA} {ks ps : List Str} {fd : FuncData} {Cc g : Addr}
end
section
variable {G : Glob} {K : PySem.W.Frag} {x qual : Str} {params : Arguments} {body : List Stmt} {scope : Scope} {kws : List (Str × V)} {f : Addr} {fd : FuncData} {n : Nat} {ks ps : List Str} {gD : List D → List D → List D}
theorem bd_plain (F : FunD G.K x qual params body scope [] kws f fd) (g : List Value → List Value → List Value) (gV : List V → List V → List V) (hrel : ∀ {vs : List V} {us : List Value} {zs : List V} {ws : List Value}, Vals vs us → Vals zs ws → Vals (gV vs zs) (g us ws))
    (hD : ∀ w vs zs ds es, RepDs G w vs ds → RepDs G w zs es → RepDs G w (gV vs zs) (gD ds es))
    (h : ∀ (kV doc pm : Value) (an : Option Addr) (cdv ct : Value) (us ws : List Value), us.length = n → ws.length = ks.length → bindArgs (PySem.W.fnOf x qual params body scope .none kV doc pm an cdv ct) ⟨us, ks.zip ws⟩ = pure (ps.zip (g us ws))) : Bd G G.K fd ps n ks gD := by
  refine ⟨g, gV, ⟨fun s us ws _ h1 h2 => ?_, hrel⟩, hD⟩
  obtain ⟨oc, od, dV, kV, doc, pm, an, cdv, ct, osl, rfl, lk, hcd, hD', hK⟩ := F.ex
  rcases hD' with ⟨_, rfl⟩ | ⟨e, _⟩
  · exact .of_eq (h kV doc pm an cdv ct us ws h1 h2)
  · exact absurd rfl e
end
end RB.F
namespace RB
open PySem PySem.Spec PyProof.Rows L2
section
variable {G : Glob} {X : Cx} {W : WX}
def dStr (d : D) (S : Store) (Q : DK) : Prop := match d with
  | .p (.int i) => i.natAbs.log2 < 1920 ∧ Q (.p (.str (toString i))) S
  | .p (.str z) => Q (.p (.str z)) S
  | _ => False
def dMulS (d1 d2 : D) (S : Store) (Q : DK) : Prop := match d1, d2 with
  | .p (.str a), .p (.int i) => a.length ≤ 16 ∧ -(2 ^ 63 : Int) ≤ i ∧ i ≤ ((1048576 : Nat) : Int) ∧ Q (.p (.str (Txt.mul a i))) S
  | _, _ => False
end
end RB
namespace RB.F
open PySem PySem.Spec PyProof.Rows L2 RB
section
variable {G : Glob} {X : Cx} {W : WX} {e : Expr} {pos : Pos}
def dStr (d : D) (S : Store) : O D := match d with
  | .p (.int i) => chk (decide (i.natAbs.log2 < 1920)) (.p (.str (toString i))) S
  | .p (.str z) => .ok (.p (.str z)) S
  | _ => .bad
def dMulS (d1 d2 : D) (S : Store) : O D := match d1, d2 with
  | .p (.str a), .p (.int i) => chk (decide (a.length ≤ 16) && (decide (-(2 ^ 63 : Int) ≤ i) && decide (i ≤ 1048576))) (.p (.str (Txt.mul a i))) S
  | _, _ => .bad
def dFmt (d : D) (S : Store) : O D := match d with
  | .p (.str y) => chk (decide (y.length ≤ sizeLine)) (.p (.str y)) S
  | .p (.int i) => chk (decide (i.natAbs.log2 < 1920)) (.p (.str (toString i))) S
  | _ => .bad
inductive RJ (G : Glob) (X : Cx) (W : WX) : List Expr → List FE → Prop where
  | nil : RJ G X W [] []
  | cons {e : Expr} {f : FE} {es : List Expr} {fs : List FE} (h : RE G X W e f) (r : RJ G X W es fs) : RJ G X W (e :: es) (f :: fs)
def wJs : List FE → Str → Rho → Store → O D
  | [], acc, _, S => .ok (.p (.str acc)) S
  | f :: fs, acc, r, S => (f r S).bind fun d S1 => match d with
    | .p (.str y) => match decide ((acc ++ y).length ≤ sizeLine) with
      | true => wJs fs (acc ++ y) r S1
      | false => .bad
    | _ => .bad
def jsC (b : Bool) (fs : List FE) (acc : Str) (r : Rho) (S : Store) : O D := match b with
  | true => wJs fs acc r S
  | false => .bad
def jsK (fs : List FE) (acc : Str) (r : Rho) (d : D) (S : Store) : O D := match d with
  | .p (.str y) => jsC (decide ((acc ++ y).length ≤ sizeLine)) fs (acc ++ y) r S
  | _ => .bad
theorem wJs_n {acc : Str} {r : Rho} {S : Store} : wJs [] acc r S = .ok (.p (.str acc)) S := (rfl)
theorem wJs_e {f : FE} {fs : List FE} {acc : Str} {r : Rho} {S : Store} : wJs (f :: fs) acc r S = (f r S).bind (jsK fs acc r) := (rfl)
theorem jsK_s {fs : List FE} {acc y : Str} {r : Rho} {S : Store} : jsK fs acc r (.p (.str y)) S = jsC (decide ((acc ++ y).length ≤ sizeLine)) fs (acc ++ y) r S := (rfl)
theorem jsC_t {fs : List FE} {acc : Str} {r : Rho} {S : Store} : jsC true fs acc r S = wJs fs acc r S := (rfl)
def dFmtS (sp : Str) (d : D) (S : Store) : O D := match d with
  | .p (.int i) => chk (decide (i.natAbs.log2 < 1920)) (.p (.str (intSpecTextOf sp i))) S
  | _ => .bad
def rgP (a b : Int) : List P := (List.range (b - a).toNat).map fun i => .int (a + (i : Nat))
def rgOkB (a b : Int) : Bool := decide (-(2 ^ 62) ≤ a) && (decide (a < 2 ^ 62) && (decide (-(2 ^ 62) ≤ b) && (decide (b < 2 ^ 62) && decide ((b - a).toNat ≤ 2 ^ 24))))
def lrK2 (d1 d2 : D) (S : Store) : O D := match d1, d2 with
  | .p (.int i), .p (.int j) => chk (rgOkB i j) (.p (.lst (rgP i j))) S
  | _, _ => .bad
def lrK (f2 : FE) (r : Rho) (d1 : D) (S1 : Store) : O D := (f2 r S1).bind (lrK2 d1)
def wListRg (f1 f2 : FE) (r : Rho) (S : Store) : O D := (f1 r S).bind (lrK f2 r)
theorem lrK2_e {i j : Int} {S : Store} : lrK2 (.p (.int i)) (.p (.int j)) S = chk (rgOkB i j) (.p (.lst (rgP i j))) S := (rfl)
end
end RB.F
namespace RB
open PySem PySem.Spec PyProof.Rows L2
def Glob.at (G : Glob) (f : Addr) (I0 : Hp) (as0 : List Addr) : Glob := { G with fa := f, I0 := I0, as0 := as0 }
section
variable {G : Glob} {f : Addr} {I0 : Hp} {I : Wd} {as0 : List Addr}
mutual
theorem rep_at : ∀ {p : P} {v : V}, Rep (G.at f I0 as0) I v p ↔ Rep G I v p
  | .non, _ => by simp only [Rep]
  | .bl _, _ => by simp only [Rep]
  | .int _, _ => by simp only [Rep]
  | .str _, _ => by simp only [Rep]
  | .ty _, _ => by simp only [Rep]
  | .tup ds, _ => by
    simp only [Rep]
    exact ⟨fun ⟨a, vs, e, h, r⟩ => ⟨a, vs, e, h, reps_at.mp r⟩, fun ⟨a, vs, e, h, r⟩ => ⟨a, vs, e, h, reps_at.mpr r⟩⟩
  | .lst ds, _ => by
    simp only [Rep]
    exact ⟨fun ⟨a, vs, e, h, r⟩ => ⟨a, vs, e, h, reps_at.mp r⟩, fun ⟨a, vs, e, h, r⟩ => ⟨a, vs, e, h, reps_at.mpr r⟩⟩
  | .scr ds, _ => by
    simp only [Rep]
    exact ⟨fun ⟨a, vs, e, h, r⟩ => ⟨a, vs, e, h, reps_at.mp r⟩, fun ⟨a, vs, e, h, r⟩ => ⟨a, vs, e, h, reps_at.mpr r⟩⟩
  | .dK ks ds, _ => by
    simp only [Rep]
    exact ⟨fun ⟨a, vs, e, h, q, r⟩ => ⟨a, vs, e, h, q, reps_at.mp r⟩, fun ⟨a, vs, e, h, q, r⟩ => ⟨a, vs, e, h, q, reps_at.mpr r⟩⟩
  | .dT ks ds, _ => by
    simp only [Rep]
    exact ⟨fun ⟨a, vs, e, h, q, r⟩ => ⟨a, vs, e, h, q, reps_at.mp r⟩, fun ⟨a, vs, e, h, q, r⟩ => ⟨a, vs, e, h, q, reps_at.mpr r⟩⟩
  | .fK ks ds, _ => by
    simp only [Rep]
    exact ⟨fun ⟨a, vs, o, e, h, q, r⟩ => ⟨a, vs, o, e, h, q, reps_at.mp r⟩, fun ⟨a, vs, o, e, h, q, r⟩ => ⟨a, vs, o, e, h, q, reps_at.mpr r⟩⟩
  | .obj c ns ds, _ => by
    simp only [Rep]
    exact ⟨fun ⟨a, C, fs, e, h, q, z, r⟩ => ⟨a, C, fs, e, h, q, z, reps_at.mp r⟩, fun ⟨a, C, fs, e, h, q, z, r⟩ => ⟨a, C, fs, e, h, q, z, reps_at.mpr r⟩⟩
  | .cel n, _ => by simp only [Rep]; exact Iff.rfl
theorem reps_at : ∀ {ps : List P} {vs : List V}, Reps (G.at f I0 as0) I vs ps ↔ Reps G I vs ps
  | [], _ => by simp only [Reps]
  | d :: ds, _ => by
    simp only [Reps]
    exact ⟨fun ⟨v, r, e, h, q⟩ => ⟨v, r, e, rep_at.mp h, reps_at.mp q⟩, fun ⟨v, r, e, h, q⟩ => ⟨v, r, e, rep_at.mpr h, reps_at.mpr q⟩⟩
end
theorem repD_at {w : Wd} {v : V} {d : D} (hd : d ≠ .fn) : RepD (G.at f I0 as0) w v d ↔ RepD G w v d := by
  cases d with
  | p p => exact rep_at
  | cell n => exact Iff.rfl
  | fn => exact absurd rfl hd
theorem cellOk_at {H : Hp} {a : Addr} {c : Cell} : CellOk (G.at f I0 as0) I H a c ↔ CellOk G I H a c := by
  cases c with
  | lst => exact ⟨fun ⟨z, vs, e, r⟩ => ⟨z, vs, e, reps_at.mp r⟩, fun ⟨z, vs, e, r⟩ => ⟨z, vs, e, reps_at.mpr r⟩⟩
  | dK => exact ⟨fun ⟨z, vs, e, q, r⟩ => ⟨z, vs, e, q, reps_at.mp r⟩, fun ⟨z, vs, e, q, r⟩ => ⟨z, vs, e, q, reps_at.mpr r⟩⟩
  | obj => exact ⟨fun ⟨z, x, C, dx, fs, g, e, q, r⟩ => ⟨z, x, C, dx, fs, g, e, q, reps_at.mp r⟩, fun ⟨z, x, C, dx, fs, g, e, q, r⟩ => ⟨z, x, C, dx, fs, g, e, q, reps_at.mpr r⟩⟩
  | dead => exact Iff.rfl
theorem wok_at {w : Wd} {S : Store} {H : Hp} (k : Wok G w S H) (un : Same I0 w.I ∧ ∃ t, w.as = as0 ++ t) : Wok (G.at f I0 as0) w S H :=
  ⟨k.sub, k.len, k.nd, ⟨k.tb.ts, k.tb.at_, un⟩, fun n c a h1 h2 => cellOk_at.mpr (k.cells n c a h1 h2)⟩
theorem wok_back {w : Wd} {S : Store} {H : Hp} (k : Wok (G.at f I0 as0) w S H) (un : Same G.I0 w.I ∧ ∃ t, w.as = G.as0 ++ t) : Wok G w S H :=
  ⟨k.sub, k.len, k.nd, ⟨k.tb.ts, k.tb.at_, un⟩, fun n c a h1 h2 => cellOk_at.mp (k.cells n c a h1 h2)⟩
theorem repX_at {w : Wd} {c : Value} {dd : Option Addr} {x : Exc} : RepX (G.at f I0 as0) w c dd x ↔ RepX G w c dd x := by
  unfold RepX
  constructor
  · rintro ⟨h1, h2, h3 | ⟨d, fs, e, h, q, r⟩⟩
    · exact ⟨h1, h2, .inl h3⟩
    · exact ⟨h1, h2, .inr ⟨d, fs, e, h, q, reps_at.mp r⟩⟩
  · rintro ⟨h1, h2, h3 | ⟨d, fs, e, h, q, r⟩⟩
    · exact ⟨h1, h2, .inl h3⟩
    · exact ⟨h1, h2, .inr ⟨d, fs, e, h, q, reps_at.mpr r⟩⟩
end
theorem RepD.above {G : Glob} {w w' : Wd} (sI : Same w.I w'.I) (sA : ∃ t, w'.as = w.as ++ t) : ∀ {d : D} {v : V}, RepD G w v d → RepD G w' v d
  | .p _, _, h => Rep.mono sI sA h
  | .cell n, _, h => by
    obtain ⟨a, e, q⟩ := h
    obtain ⟨t, ht⟩ := sA
    refine ⟨a, e, ?_⟩
    rw [ht, List.getElem?_append_left (List.getElem?_eq_some_iff.mp q).1]
    exact q
  | .fn, _, h => h
theorem un_trans {I0 I1 I2 : Hp} {a0 a1 a2 : List Addr} (h : Same I0 I1 ∧ ∃ t, a1 = a0 ++ t) (h' : Same I1 I2 ∧ ∃ t, a2 = a1 ++ t) : Same I0 I2 ∧ ∃ t, a2 = a0 ++ t := by
  obtain ⟨t, e⟩ := h.2
  obtain ⟨t', e'⟩ := h'.2
  exact ⟨h.1.trans h'.1, t ++ t', by rw [e', e, List.append_assoc]⟩
section
variable {X : Cx} {pins : List (Addr × Obj)} {σ : L2.St} {H : Hp} {s : Shared}
theorem lam_make3 {c P : Addr} {params : Arguments} {body : Expr} {scope : Scope} {pos : Pos} {ps : Array Value} {E : Value → Shared → Prop} {Q : Value → Shared → Prop} (I : Inv X pins σ H s) (TB : LamX.TabB X.base X.mg c P) (hcode : X.env.code = .ref c)
    (hP : H P = some (.tbl ps)) (ht : TriplesOk ps.toList) (ha : ∀ (pos : Pos) (cv : Value), codeAmong pos ps.toList = some cv → ∃ c, cv = .ref c ∧ H c = some (LamX.CodeO c (X.env.qual ++ "<lambda>")))
    (hdef : defaultsOf params X.env = ([], [])) (hfree : ∀ y ∈ scope.names, y.2 = .free → ∃ c, X.env.cells.lookup y.1 = some c)
    (h : ∀ (f c' : Addr) (pm ctv : Value) (H1 : Hp) (s' : Shared), Inv X pins σ H1 s' → ((H1 = H ∧ ∃ pos', codeAmong pos' ps.toList = some (.ref c')) ∨ (H c' = none ∧ H1 = upd (upd H P (.tbl (ps ++ #[rawInt pos.line, rawInt pos.col, .ref c']))) c' (LamX.CodeO c' (X.env.qual ++ "<lambda>")))) →
      s'.heap.get? f = some (PySem.W.kla_obj "<lambda>" (X.env.qual ++ "<lambda>") params body scope (cloFrom X.env.cells scope.names []) pm c' ctv) → H1 f = none → f ∉ frs X.stack → Q (.ref f) s') :
    wpAny (model X.prog X.w) X.A (eval (.Lambda params body scope pos) X.env) Q E s := by
  refine PySem.W.kla_eval hdef ?_
  have bP : s.heap.BuiltinsAt X.mg P := TB.bm.keeps I.bk
  have hP' : s.heap.get? P = some { cls := .none, data := .fields ps } := I.hok P _ hP
  have nofr : ∀ f, s.heap.objs.size ≤ f → f ∉ frs X.stack := fun f hf z => by
    rcases List.mem_cons.mp (I.stkSub _ z) with e | e
    · have h1 := I.lt
      rw [← e] at h1
      exact Nat.lt_irrefl _ (Nat.lt_of_lt_of_le h1 hf)
    · exact I.nofs hf e
  cases hc : codeAmong pos ps.toList with
  | none =>
    refine PySem.W.kla_makeFunction (mg := X.mg) (c := c) (P := P) (ps := ps) (closure_ok hfree) I.ok.glob (I.mod.glob.keeps I.bk) hcode (TB.code.keeps I.bk) hP' ht hc TB.gP bP fun c' ctv h' tk hx hge hlt hrec htb => ?_
    obtain ⟨c2, oc, vs, t, e2, hoc, hd, hv⟩ := hrec
    cases e2
    have hsz : s.heap.objs.size ≤ h'.objs.size := Nat.le_trans hge (Nat.le_of_lt hlt)
    have nC : H c' = none := I.hok.fresh hge
    have I1 := LamX.inv_table (t' := tk) (more := #[rawInt pos.line, rawInt pos.col, .ref c']) (h' := h'.push (PySem.W.kla_obj "<lambda>" (X.env.qual ++ "<lambda>") params body scope (cloFrom X.env.cells scope.names []) ((X.mg "__name__").getD .none) c' ctv)) I hP
      (fun b o hb e => Heap.get?_push_of_some _ (hx b o hb e)) (Heap.get?_push_of_some _ htb) hge ⟨oc, vs, t, Heap.get?_push_of_some _ hoc, hd, hv⟩
    refine h h'.objs.size c' ((X.mg "__name__").getD .none) ctv _ _ I1 (.inr ⟨nC, rfl⟩) (Heap.get?_push_size _ rfl) ?_ (nofr _ hsz)
    have n1 : h'.objs.size ≠ c' := Nat.ne_of_gt hlt
    have n2 : h'.objs.size ≠ P := Nat.ne_of_gt (Nat.lt_of_lt_of_le (Heap.lt_size hP') hsz)
    rw [upd_ne n1, upd_ne n2]
    exact I.hok.fresh hsz
  | some cv =>
    obtain ⟨c', e, hco⟩ := ha pos cv hc
    subst e
    refine PySem.W.kla_makeFunctionHit (mg := X.mg) (c := c) (P := P) (ps := ps) (closure_ok hfree) I.ok.glob (I.mod.glob.keeps I.bk) hcode (TB.code.keeps I.bk) hP' ht hc bP fun ctv h' tk hx hsz => ?_
    have I1 : Inv X pins σ H { s with heap := h'.push (PySem.W.kla_obj "<lambda>" (X.env.qual ++ "<lambda>") params body scope (cloFrom X.env.cells scope.names []) ((X.mg "__name__").getD .none) c' ctv), toks := tk } := I.kept fun b o e => Heap.get?_push_of_some _ (hx b o e)
    exact h h'.objs.size c' ((X.mg "__name__").getD .none) ctv H _ I1 (.inl ⟨rfl, pos, hc⟩) (Heap.get?_push_size _ rfl) (I.hok.fresh hsz) (nofr _ hsz)
end
theorem lam_world {G : Glob} {w : Wd} {S : Store} {H H1 : Hp} {P c' : Addr} {q : Str} {ps : Array Value} {pos : Pos} (k : Wok G w S H) (hm : (P, q) ∈ G.tabs) (hu : ∀ p ∈ G.tabs, p.1 = P → p.2 = q) (hP : H P = some (.tbl ps))
    (h : (H1 = H ∧ ∃ pos', codeAmong pos' ps.toList = some (.ref c')) ∨ (H c' = none ∧ H1 = upd (upd H P (.tbl (ps ++ #[rawInt pos.line, rawInt pos.col, .ref c']))) c' (LamX.CodeO c' q))) :
    ∃ w1, Wok G w1 S H1 ∧ Ext w H w1 H1 ∧ w1.I c' = some (LamX.CodeO c' q) := by
  obtain ⟨⟨ps0, e1, e2, e3⟩, e4, e5⟩ := k.tb.at_ _ hm
  have e1 : H P = some (.tbl ps0) := e1
  rw [hP] at e1
  cases e1
  have mP : P ∈ w.ts := by rw [k.tb.ts]; exact List.mem_map.mpr ⟨_, hm, rfl⟩
  rcases h with ⟨rfl, pos', hc⟩ | ⟨hn, rfl⟩
  · obtain ⟨c, g1, g2⟩ := e3 pos' _ hc
    cases g1
    exact ⟨w, k, Ext.refl _ _, g2⟩
  · have nPc : P ≠ c' := ne_of_none hP hn
    have nI := k.freeI hn
    have sI : Same w.I (upd w.I c' (LamX.CodeO c' q)) := Same.upd _ nI
    have at_ : ∀ b, b ≠ P → b ≠ c' → upd (upd H P (.tbl (ps ++ #[rawInt pos.line, rawInt pos.col, .ref c']))) c' (LamX.CodeO c' q) b = H b := fun b h1 h2 => by rw [upd_ne h2, upd_ne h1]
    have eL : (ps ++ #[rawInt pos.line, rawInt pos.col, .ref c']).toList = ps.toList ++ [rawInt pos.line, rawInt pos.col, .ref c'] := by simp
    refine ⟨⟨upd w.I c' (LamX.CodeO c' q), w.as, w.ts⟩, ⟨fun b u hb => ?_, k.len, k.nd, ⟨k.tb.ts, fun p hp => ?_, k.tb.un.1.trans sI, k.tb.un.2⟩, fun n c a h1 h2 => ?_⟩, ⟨sI, ⟨[], by simp⟩, rfl, fun b u hb _ hts => ?_, fun b u hb hq => ⟨hq, fun z => ?_⟩, fun b u hb => ?_⟩, upd_same⟩
    · have hb : upd w.I c' (LamX.CodeO c' q) b = some u := hb
      by_cases z : b = c'
      · subst z
        rw [upd_same] at hb ⊢
        exact hb
      · rw [upd_ne z] at hb
        have nP : b ≠ P := fun y => by rw [y, e4] at hb; cases hb
        rw [at_ b nP z]
        exact k.sub _ _ hb
    · obtain ⟨⟨ps', a1, a2, a3⟩, a4, a5⟩ := k.tb.at_ p hp
      have npc : p.1 ≠ c' := ne_of_none a1 hn
      refine ⟨?_, by show upd w.I c' _ p.1 = none; rw [upd_ne npc]; exact a4, a5⟩
      by_cases z : p.1 = P
      · rw [hu p hp z, z]
        refine ⟨_, by rw [upd_ne nPc, upd_same], by rw [eL]; exact PySem.TriplesOk_snoc _ _ _ _ e2, fun p' cv hcv => ?_⟩
        rw [eL] at hcv
        rcases LamX.among_app _ e2 hcv with y | y
        · obtain ⟨c0, g1, g2⟩ := e3 p' cv y
          exact ⟨c0, g1, sI _ _ g2⟩
        · exact ⟨c', y, upd_same⟩
      · refine ⟨ps', by rw [at_ _ z npc]; exact a1, a2, fun p' cv hcv => ?_⟩
        obtain ⟨c0, g1, g2⟩ := a3 p' cv hcv
        exact ⟨c0, g1, sI _ _ g2⟩
    · have h2 : w.as[n]? = some a := h2
      have z := k.cells n c a h1 h2
      obtain ⟨o, ho⟩ := z.there
      have na : a ≠ c' := ne_of_none ho hn
      have nP : a ≠ P := fun y => e5 (by show P ∈ w.as; rw [← y]; exact List.mem_of_getElem? h2)
      exact z.grow sI (fun y => by show upd w.I c' _ a = none; rw [upd_ne na]; exact y) (at_ a nP na)
    · have nP : b ≠ P := fun y => hts (by rw [y]; exact mP)
      rw [at_ b nP (ne_of_none hb hn)]
      exact hb
    · show upd w.I c' _ b = none
      rw [upd_ne (ne_of_none hb hn)]
      exact z
    · by_cases z : b = P
      · subst z
        exact ⟨_, by rw [upd_ne nPc, upd_same]⟩
      · exact ⟨u, by rw [at_ b z (ne_of_none hb hn)]; exact hb⟩
end RB
namespace RB.F
open PySem PySem.Spec PyProof.Rows L2 RB
def noFn (o : O D) : O D := match o with
  | .ok .fn _ => .bad
  | o => o
theorem out_noFn {o : O D} {Q : DK} {E : EK} (h : out (noFn o) Q E) : out o (fun d S => d ≠ .fn ∧ Q d S) E := by
  cases o with
  | ok d S =>
    cases d with
    | fn => exact h.elim
    | p p => exact ⟨(fun z => by cases z), h⟩
    | cell n => exact ⟨(fun z => by cases z), h⟩
  | ex x S => exact h
  | bad => exact h
def wAct (i : Nat) (act : Store → O D) (r : Rho) (S : Store) : O D := match r[i]? with
  | some (some .fn) => noFn (act S)
  | _ => .bad
section
variable {G : Glob} {X : Cx} {W : WX} {pins : List (Addr × Obj)} {σ : L2.St} {H : Hp} {s : Shared}
theorem re_act {Ng : List Str} {qg : Str} {sg : Scope} {g f c' : Addr} {cdg pm ctv : Value} {params : Arguments} {body : Expr} {scope : Scope} {k i : Nat} {a : Str} {w0 : Wd} {S0 : Store} {r : Rho} {fb : FE} {Eg : XK} {W1 : WX} {pn : List (Addr × Obj)} {xe : Value → Shared → Prop} {n1 : Nat} {p1 p2 : Pos}
    (hK : X.K = G.K) (I : Inv X pins σ H s) (L : LamX.LamS X.env.scope scope) (hf : s.heap.get? f = some (PySem.W.kla_obj "<lambda>" (X.env.qual ++ "<lambda>") params body scope (cloFrom X.env.cells scope.names []) pm c' ctv)) (hfn : H f = none) (hfr : f ∉ frs X.stack)
    (hbind : bindArgs (PySem.W.kla_fn "<lambda>" (X.env.qual ++ "<lambda>") params body scope (cloFrom X.env.cells scope.names []) pm (.ref c') ctv) ⟨[], []⟩ = pure [])
    (ok0 : Wok G w0 S0 H) (en0 : EnvOk G w0 σ r) (hco : w0.I c' = some (LamX.CodeO c' (X.env.qual ++ "<lambda>")))
    (hbody : ∀ (A : Around) (outer : List Env) (s : Shared) (H : Hp) (E : XK), CxG G (LamX.lamCx X A outer s H E scope f c') (fun cls d _ H' => E cls d H') k → RE G (LamX.lamCx X A outer s H E scope f c') (fun cls d _ H' => E cls d H') body fb)
    (C1 : CxG (G.at f w0.I w0.as) ((cxOf (L2.CX X.prog X.w) X.prog X.w X.K X.mg X.base Ng qg sg g cdg X.A X.stack s H Eg).tr pn xe) W1 n1) (hk : k + 1 ≤ n1)
    (hN : Ng[i]? = some a) (hv : Vis sg a) (hd : (a == ("__debug__" : Str)) = false := by decide) (hcd : (a == ("__classdict__" : Str)) = false := by decide) :
    RE (G.at f w0.I w0.as) ((cxOf (L2.CX X.prog X.w) X.prog X.w X.K X.mg X.base Ng qg sg g cdg X.A X.stack s H Eg).tr pn xe) W1 (.Call (.Name a p1) [] [] p2) (wAct i fun S => fb r S) := by
  refine ⟨⟨fun pinsZ sZ σZ HZ Q IZ ⟨w, S, rz, ok, en, q⟩ => ?_⟩, lf_mon _⟩
  have q : out (wAct i (fun S => fb r S) rz S) (Qv (G.at f w0.I w0.as) w HZ Q) (Qx (G.at f w0.I w0.as) w HZ fun c d H' => W1 c d σZ H') := q
  unfold wAct at q
  split at q
  · rename_i hz
    obtain ⟨v0, hs, rv⟩ := en.at_ i .fn hz
    have rv : v0 = .ref f := rv
    subst rv
    refine wpAny_Call_Name_kw (thn ((pe_var (pos := p1) (i := i) hN hv hd hcd).run pinsZ sZ σZ HZ (fun v H1 => v = .ref f ∧ H1 = HZ) IZ ⟨.ref f, hs, rfl, rfl⟩) fun u s1 ⟨v, H1, I1, r1, q1⟩ => ?_)
    obtain ⟨ev, eH⟩ := q1
    subst ev
    rw [eH] at I1
    obtain rfl : u = Value.ref f := r1
    have of1 : s1.heap.get? f = some (PySem.W.kla_obj "<lambda>" (X.env.qual ++ "<lambda>") params body scope (cloFrom X.env.cells scope.names []) pm c' ctv) := I1.base.keep f _ hf hfn hfr (fun z => nomatch (show f ∈ ([] : List Addr) from z))
    refine PySem.W.callWith_F0 ⟨_, _, _, _, of1⟩ ?_
    have un : Un (frs X.stack) [] H HZ s.heap s1.heap := I1.base
    obtain ⟨⟨oc, vs, t, hoc, hdc, hvc⟩, _, _⟩ := I1.hok c' _ (ok.sub _ _ (ok.tb.un.1 _ _ hco))
    have hr := C1.rm.mono hk
    have up := ok.tb.un
    have up0 := un_trans ok0.tb.un up
    have okG : Wok G w S HZ := wok_back ok up0
    have enG : EnvOk G w σ r := ⟨en0.len, fun j d h => let ⟨v, e, z⟩ := en0.at_ j d h; ⟨v, e, z.above up.1 up.2⟩⟩
    have q2 : out (fb r S) (Qv G w HZ Q) (Qx G w HZ fun c d H' => W1 c d σZ H') := out_mono (out_noFn q) (fun d S' ⟨hd, z⟩ v w' H' x k rd => z v w' H' x (wok_at k (un_trans up ⟨x.I, x.as⟩)) ((repD_at hd).mpr rd)) fun y S' z c d w' H' x k rx => z c d w' H' x (wok_at k (un_trans up ⟨x.I, x.as⟩)) (repX_at.mpr rx)
    have rc : codeAny (model X.prog X.w) (X.A.deeper (envOfC qg sg s.heap.objs.size g cdg)) (.call (.ref f) ⟨[], []⟩) (CR (L2.CX X.prog X.w) (envOfC qg sg s.heap.objs.size g cdg :: X.stack) X.prog X.w HZ s1 Q (fun c d H' => W1 c d σZ H')) s1 := by
      refine PySem.W.kla_callFunE hr.depth of1 rfl L.co L.gen rfl ⟨c', oc, vs, t, rfl, hoc, hdc, hvc⟩ ?_
      rw [hbind]
      refine wpAny_pure (wpAny_newFunctionEnv (fun y hy => (L.own y hy).2) (fun y hy => absurd hy (by simp)) (fun h₁ hns hsb => ⟨I1.nolimit.fresh _ hsb, ?_⟩) L.kind)
      show codeAny _ _ (.expr body (LamX.lamEnv X scope s1.heap.objs.size f c')) _ _
      have kp : ∀ b o, s1.heap.get? b = some o → h₁.get? b = some o := fun b o e => hsb.extBut b o (Nat.ne_of_lt (Heap.lt_size e)) (Heap.get?_push_of_some _ e)
      have J : Inv (LamX.lamCx X (X.A.deeper (envOfC qg sg s.heap.objs.size g cdg)) (envOfC qg sg s.heap.objs.size g cdg :: X.stack) s1 HZ (fun c d H' => W1 c d σZ H') scope f c') [] σ HZ { s1 with heap := h₁, toks := s1.toks + ([] : List (Str × Value)).length } :=
        LamX.lam_start2 I L I1.env0 hr.hd un hns kp
      have CL : CxG G (LamX.lamCx X (X.A.deeper (envOfC qg sg s.heap.objs.size g cdg)) (envOfC qg sg s.heap.objs.size g cdg :: X.stack) s1 HZ (fun c d H' => W1 c d σZ H') scope f c') (fun cls d _ H' => W1 cls d σZ H') k := ⟨hK, takes_of rfl rfl rfl rfl, hr.deeper _, C1.gd, rfl⟩
      refine PySem.W.kla_codeExpr (wpAny_mono ((hbody _ _ s1 HZ _ CL).pe.run [] _ _ HZ Q J ⟨w, S, r, okG, enG, q2⟩) (fun v s' hq => ?_) fun e s' hq => hq)
      obtain ⟨w', H', J', rv, q⟩ := hq
      exact ⟨w', H', J'.os, J'.bare, J'.base, J'.hok, rv, q⟩
    refine wpAny_call (codeAny_mono rc fun r s' hq => ?_)
    cases r with
    | error e => exact passAt C1.tk σZ pinsZ HZ s1 e s' I1 hq
    | ok fl =>
      cases fl with
      | ret u => exact I1.after hq
      | next => exact False.elim hq
      | brk => exact False.elim hq
      | cont => exact False.elim hq
  · exact q.elim
end
def CatchR (G : Glob) (P : Program) (w : World) (mg : Str → Option Value) (base : Heap) (g : Addr) (x a : Str) (Ng : List Str) (sg : Scope) (bg : List Stmt) (k2 k : Nat) (fc : (Store → O D) → FS) : Prop :=
  ∀ (f : Addr) (I0 : Hp) (as0 : List Addr) (cdv : Value) (A : Around) (outer : List Env) (s : Shared) (H : Hp) (E : XK) (act : Store → O D),
    CxG (G.at f I0 as0) (cxOf (L2.CX P w) P w G.K mg base Ng x sg g cdv A outer s H E) (fun cls d _ H' => E cls d H') k2 →
    (∀ (W1 : WX) (pn : List (Addr × Obj)) (xe : Value → Shared → Prop) (n1 : Nat) (p1 p2 : Pos), CxG (G.at f I0 as0) ((cxOf (L2.CX P w) P w G.K mg base Ng x sg g cdv A outer s H E).tr pn xe) W1 n1 → k + 1 ≤ n1 →
      RE (G.at f I0 as0) ((cxOf (L2.CX P w) P w G.K mg base Ng x sg g cdv A outer s H E).tr pn xe) W1 (.Call (.Name a p1) [] [] p2) (wAct 0 act)) →
    RSs (G.at f I0 as0) (cxOf (L2.CX P w) P w G.K mg base Ng x sg g cdv A outer s H E) (fun cls d _ H' => E cls d H') bg (fc act)
def wLam (mc : (Store → O D) → Store → O D) (fb : FE) (r : Rho) (S : Store) : O D := noFn (mc (fun S' => fb r S') S)
section
variable {G : Glob} {X : Cx} {W : WX} {n : Nat}
end
end RB.F
namespace RB.F
open PySem PySem.Spec PyProof.Rows L2 RB
def codeG (g : Addr → Option Obj) (a : Addr) : Option Addr := match g a with
  | some ⟨_, _, .func fd, _⟩ => (match fd.code with
    | .ref c => some c
    | _ => none)
  | _ => none
def tabG (g : Addr → Option Obj) (c : Addr) : Option Addr := match g c with
  | some ⟨.type "code", _, .fields vs, _⟩ => (match (vs[11]? : Option Value) with
    | some (.ref P) => some P
    | _ => none)
  | _ => none
def mkG (g : Addr → Option Obj) (K0 : PySem.W.Frag) (p : Str × Option Str) : Option (Addr × Addr) := (codeG g (He.fAd K0 p)).bind fun c => (tabG g c).map fun P => (c, P)
def csG (n : Nat) (mk : List (Str × Option Str)) (g : Addr → Option Obj) : List (Addr × Addr) := mk.filterMap (mkG g (He.frG g (List.range n)))
def asG (n : Nat) (cs : List (Addr × Addr)) : List Addr := (List.range n).filter fun a => !(cs.any fun q => q.2 == a)
def emptyB (o : Option Obj) : Bool := match o with
  | some ⟨.none, none, .fields vs, sl⟩ => vs.toList.isEmpty && sl.toList.isEmpty
  | _ => false
theorem emptyB_ok {o : Option Obj} (h : emptyB o = true) : o = some (PySem.W.tabObj #[]) := by
  unfold emptyB at h
  split at h
  · rename_i vs sl
    obtain ⟨h1, h2⟩ := Bool.and_eq_true_iff.mp h
    obtain ⟨vl⟩ := vs
    obtain ⟨sl⟩ := sl
    simp only [List.isEmpty_iff] at h1 h2
    subst h1; subst h2
    rfl
  · cases h
def codeB (K : PySem.W.Frag) (c P : Addr) : Bool := match K.lookup c with
  | some ⟨.type "code", _, .fields vs, _⟩ => (match (vs[11]? : Option Value), vs.getD 18 .none, vs.getD 7 .none, vs.getD 9 .none, vs.getD 10 .none with
    | some (.ref P'), .str _ _, .int _ _, .bool _, .int _ _ => decide (P' = P) && !(decide (c = P))
    | _, _, _, _, _ => false)
  | _ => false
theorem codeB_ok {K : PySem.W.Frag} {h : Heap} {c P : Addr} (hK : K.In h) (q : codeB K c P = true) : PySem.W.CodeHd h c P := by
  unfold codeB at q
  split at q
  · rename_i dd vs sl e
    split at q
    · rename_i P' f tf fl tg b tx tt e1 e2 e3 e4 e5
      obtain ⟨q1, q2⟩ := Bool.and_eq_true_iff.mp q
      have q1 := of_decide_eq_true q1
      subst q1
      refine ⟨_, vs, f, tf, fl, tg, b, tx, tt, hK _ _ e, rfl, rfl, e1, ?_, e2, e3, e4, e5, by simpa using q2⟩
      rw [Array.getD_eq_getD_getElem?, e1]
      rfl
    · cases q
  · cases q
def oneB (g : Addr → Option Obj) (K : PySem.W.Frag) (q : (Str × Option Str) × Addr × Addr) : Bool := emptyB (g q.2.2) && (codeB K q.2.1 q.2.2 && decide (codeG (fun a => K.lookup a) (He.fAd K q.1) = some q.2.1))
def tabsB (g : Addr → Option Obj) (K : PySem.W.Frag) (mk : List (Str × Option Str)) (cs : List (Addr × Addr)) : Bool := decide (cs.length = mk.length) && (decide (cs.map (·.2)).Nodup && (mk.zip cs).all (oneB g K))
structure TabsIn (K : PySem.W.Frag) (h : Heap) (mk : List (Str × Option Str)) (cs : List (Addr × Addr)) : Prop where
  len : cs.length = mk.length
  nd : (cs.map (·.2)).Nodup
  at_ : ∀ q ∈ mk.zip cs, h.get? q.2.2 = some (PySem.W.tabObj #[]) ∧ PySem.W.CodeHd h q.2.1 q.2.2 ∧ codeG (fun a => K.lookup a) (He.fAd K q.1) = some q.2.1
  out : ∀ q ∈ cs, K.lookup q.2 = none
theorem TabsIn.of {K : PySem.W.Frag} {h : Heap} : ∀ {mk : List (Str × Option Str)} {cs : List (Addr × Addr)}, TabsIn K h mk cs → ∀ {p : Addr × Addr}, p ∈ cs → h.get? p.2 = some (PySem.W.tabObj #[]) ∧ PySem.W.CodeHd h p.1 p.2 := by
  intro mk cs t p hp
  obtain ⟨i, hi, e⟩ := List.getElem_of_mem hp
  have hl := t.len
  have hm : (mk[i]'(by omega), cs[i]) ∈ mk.zip cs := by
    rw [List.mem_iff_getElem]
    exact ⟨i, by simp; omega, by simp⟩
  have z := t.at_ _ hm
  rw [e] at z
  exact ⟨z.1, z.2.1⟩
theorem frG_out {g : Addr → Option Obj} {P : Addr} : ∀ {as : List Addr}, P ∉ as → (He.frG g as).lookup P = none
  | [], _ => rfl
  | b :: r, h => by
    have h1 : P ≠ b := fun z => h (by rw [z]; exact List.mem_cons_self)
    have ih := frG_out (g := g) (fun z => h (List.mem_cons_of_mem _ z) : P ∉ r)
    unfold He.frG
    rw [List.filterMap_cons]
    cases hb : g b with
    | none => exact ih
    | some o =>
      simp only [Option.map_some, List.lookup_cons]
      rw [show (P == b) = false from beq_eq_false_iff_ne.mpr h1]
      exact ih
theorem code_of {K : PySem.W.Frag} {x qual : Str} {params : Arguments} {body : List Stmt} {scope : Scope} {dvs : List V} {kws : List (Str × V)} {f c : Addr} {fd : FuncData} (F : FunD K x qual params body scope dvs kws f fd) (h : codeG (fun a => K.lookup a) f = some c) : fd.code = .ref c := by
  obtain ⟨oc, od, dV, kV, doc, pm, an, cdv, ct, osl, e, lk, _⟩ := F.ex
  unfold codeG at h
  dsimp only at h
  rw [lk] at h
  dsimp only at h
  split at h
  · rename_i c' e'
    cases h
    exact e'
  · cases h
end RB.F
namespace RB
open PySem PySem.Spec PyProof.Rows L2
section
variable {G : Glob}
theorem Wok.takeC {w : Wd} {S : Store} {H : Hp} {p : Addr} {vs : List V} {ps : List P} (k : Wok G w S H) (hp : H p = some (.lst vs)) (h1 : w.I p = none) (h2 : p ∉ w.as) (r : Reps G w vs ps) : Wok G ⟨w.I, w.as ++ [p], w.ts⟩ (S ++ [.lst ps]) H := by
  refine ⟨k.sub, by simp [k.len], ?_, k.tb.step rfl (Same.refl _) ⟨[p], rfl⟩ fun P ps' m e i n => ⟨e, i, ?_⟩, fun n c a h3 h4 => ?_⟩
  · show (w.as ++ [p]).Nodup
    rw [List.nodup_append]
    exact ⟨k.nd, by simp, fun a ha b hb => by simp at hb; subst hb; exact fun z => h2 (z ▸ ha)⟩
  · show P ∉ w.as ++ [p]
    simp only [List.mem_append, List.mem_singleton, not_or]
    exact ⟨n, fun z => by rw [z, hp] at e; cases e⟩
  · have h4 : (w.as ++ [p])[n]? = some a := h4
    by_cases hn : n < S.length
    · rw [List.getElem?_append_left hn] at h3
      rw [List.getElem?_append_left (by rw [k.len]; exact hn)] at h4
      exact CellOk.grow (I' := ⟨w.I, w.as ++ [p], w.ts⟩) (k.cells n c a h3 h4) (Same.refl _) (fun z => z) rfl ⟨[p], rfl⟩
    · have e : n = S.length := by
        have := (List.getElem?_eq_some_iff.mp h3).1
        simp at this; omega
      subst e
      rw [List.getElem?_append_right (Nat.le_refl _)] at h3
      rw [List.getElem?_append_right (by rw [k.len]; exact Nat.le_refl _)] at h4
      simp [k.len] at h3 h4
      subst h3; subst h4
      exact ⟨h1, vs, hp, Reps.mono (I := w) (I' := ⟨w.I, w.as ++ [p], w.ts⟩) (Same.refl _) ⟨[p], rfl⟩ r⟩
theorem Ext.takeC {w w' : Wd} {H H' : Hp} {p : Addr} (x : Ext w H w' H') (hp : H p = none) : Ext w H ⟨w'.I, w'.as ++ [p], w'.ts⟩ H' := by
  obtain ⟨t, ht⟩ := x.as
  refine ⟨x.I, ⟨t ++ [p], by show w'.as ++ [p] = _; rw [ht, List.append_assoc]⟩, x.ts, x.frame, fun b o h n => ⟨?_, (x.fresh b o h n).2⟩, x.there⟩
  show b ∉ w'.as ++ [p]
  simp only [List.mem_append, List.mem_singleton, not_or]
  exact ⟨(x.fresh b o h n).1, ne_of_none h hp⟩
end
end RB
namespace RB.F
open PySem PySem.Spec PyProof.Rows L2 RB
section
variable {G : Glob} {X : Cx} {W : WX}
def lstKC (ps : List P) (S2 : Store) : O D := .ok (.cell S2.length) (S2 ++ [.lst ps])
def lcKC (T : Tgt) (ft : FT) (fe : FE) (r0 : Rho) (ds : List D) (S1 : Store) : O D := (lcF T ft fe r0 ds 0 S1).bind lstKC
def wLCC (fi : FA) (T : Tgt) (ft : FT) (fe : FE) (vs : List Nat) (r : Rho) (S : Store) : O D := (fi r S).bind (lcKC T ft fe (wipeR r vs))
theorem rs_setLcC {i : Nat} {y : Str} {py spos : Pos} {elt tg iter : Expr} {ifs : List Expr} {scope : Scope} {own : List (Str × Nat)} {pos : Pos} {fi : FA} {T : Tgt} {ft : FT} {fe : FE} (hK : X.K = G.K) (hc : X.calm = true) (hN : X.N.Nodup) (hy : X.N[i]? = some y) (hyl : X.env.scope.names.lookup y = some .local)
    (hsw : swapsWith (.ListComp elt [⟨tg, iter, ifs, 0⟩] scope pos) (some (.Name y py)) spos.line X.env = pure true) (hi : RI G X W tg iter fi) (ok : BlkOk X.N X.env.scope scope own) (hT : ∀ i ∈ T.slots, i ∈ own.map (·.2))
    (hg : ∀ (s : Shared) (H : Hp) (C : Addr) (cl : List (Str × Addr)) (fp : List Addr), PG (X.blk s H scope (compEnvC scope cl C X.env) fp) tg (gT X.K T)) (ht : ∀ (s : Shared) (H : Hp) (C : Addr) (cl : List (Str × Addr)) (fp : List Addr), RTs G (X.blk s H scope (compEnvC scope cl C X.env) fp) WF ifs ft)
    (he : ∀ (s : Shared) (H : Hp) (C : Addr) (cl : List (Str × Addr)) (fp : List Addr), RE G (X.blk s H scope (compEnvC scope cl C X.env) fp) WF elt fe) (hs : ∀ x, foldedSetIterable iter X.env x = pure x := by intro _; rfl) :
    RS G X W (.Assign [.Name y py] (.ListComp elt [⟨tg, iter, ifs, 0⟩] scope pos) spos) (wSet i (wLCC fi T ft fe (own.map (·.2)))) := by
  refine ⟨PS.imp (ps_setLc hc hN hy hyl hsw hi.pi ok hg (fun s H C cl fp => (ht s H C cl fp).pts) (fun s H C cl fp => (he s H C cl fp).pe) hs) fun D σ H ⟨w, S, ρ, k, en, q⟩ => ?_, lfS_mon _⟩
  have q : outS (wSet i (wLCC fi T ft fe (own.map (·.2))) ρ S) (lowE G w H W D) := q
  unfold wSet at q
  rw [outS_st] at q
  have q : out (wLCC fi T ft fe (own.map (·.2)) ρ S) (Qv G w H fun v H' => D.nx (σ.set i (some v)) H') (Qx G w H fun c d H' => W c d σ H') :=
    out_mono q (fun d S' z v w' H' x k r => z _ w' H' x k ((en.mono x).set r i)) fun y S' z c d w' H' x k r => z σ c d w' H' x k (en.mono x) r
  unfold wLCC at q
  rw [out_bind] at q
  refine lc_inG (Kf := fun ps S2 => Qv G w H (fun v H' => D.nx (σ.set i (some v)) H') (.cell S2.length) (S2 ++ [.lst ps])) hK hi.mono (ht X.s_0 X.H_0 0 [] []).mono (he X.s_0 X.H_0 0 [] []).mono hT k en (out_mono q (fun ds S1 q => ?_) fun _ _ z => z) fun acc S2 w2 Hc Da vs x k2 hDc nI2 nA2 rs nD0 run => ?_
  · refine lc_in (E := fun _ _ => False) (acc := []) ?_
    unfold lcKC at q
    rw [out_bind] at q
    show out (lcF T ft fe (wipeR ρ (own.map (·.2))) ds 0 S1) _ _
    cases e : lcF T ft fe (wipeR ρ (own.map (·.2))) ds 0 S1 with
    | ok a S2 =>
      rw [e] at q
      have q : Qv G w H (fun v H' => D.nx (σ.set i (some v)) H') (.cell S2.length) (S2 ++ [.lst a]) := q
      simpa using q
    | ex y S2 => exact (lcF_noEx e).elim
    | bad => rw [e] at q; exact q.elim
  · refine run (.ref Da) _ Hc (x.takeC nD0) (k2.takeC hDc nI2 nA2 rs) ⟨Da, rfl, ?_⟩
    show (w2.as ++ [Da])[S2.length]? = some Da
    rw [List.getElem?_append_right (by rw [k2.len]; exact Nat.le_refl _), k2.len]
    simp
end
end RB.F
namespace RB
open PySem PySem.Spec PyProof.Rows L2
end RB
namespace RB.F
open PySem PySem.Spec PyProof.Rows L2 RB
def entB (e : DictEntry) : Option (Str × Str) := match e.key, e.val with
  | .str x _, .str y _ => some (x, y)
  | _, _ => none
theorem entB_ok {e : DictEntry} {x y : Str} (h : entB e = some (x, y)) : ∃ t u, e.key = .str x t ∧ e.val = .str y u := by
  unfold entB at h
  split at h
  · rename_i a t b u e1 e2
    cases h
    exact ⟨t, u, e1, e2⟩
  · cases h
structure KTab (K : PySem.W.Frag) (w : World) (d : Addr) (kvs : List (Str × Str)) : Prop where
  D : ∃ es n, KDict K w d es n ∧ es.toList.map entB = kvs.map some
def tabL : List (Str × Str) → Str → Option Str
  | [], _ => none
  | (x, y) :: r, z => if x = z then some y else tabL r z
theorem find_tab {z : Str} : ∀ {es : List DictEntry} {kvs : List (Str × Str)} {y : Str}, es.map entB = kvs.map some → tabL kvs z = some y → ∃ e, es.find? (·.key.isStr z) = some e ∧ ∃ t, e.val = .str y t
  | [], [], _, _, h => by cases h
  | e :: es, [], _, h, _ => by simp at h
  | [], q :: kvs, _, h, _ => by simp at h
  | e :: es, (a, b) :: kvs, y, h, l => by
    simp only [List.map_cons, List.cons.injEq] at h
    obtain ⟨t, u, e1, e2⟩ := entB_ok h.1
    unfold tabL at l
    by_cases c : a = z
    · rw [if_pos c] at l
      cases l
      refine ⟨e, ?_, u, e2⟩
      rw [List.find?_cons, e1]
      simp [Value.isStr, c]
    · rw [if_neg c] at l
      obtain ⟨e', h1, h2⟩ := find_tab h.2 l
      refine ⟨e', ?_, h2⟩
      rw [List.find?_cons, e1]
      have : (Value.str a t).isStr z = false := by simp [Value.isStr, c]
      rw [this]
      exact h1
theorem KTab.ns {K : PySem.W.Frag} {w : World} {d : Addr} {kvs : List (Str × Str)} {es : Array DictEntry} {n : Nat} (D : KDict K w d es n) (h : es.toList.map entB = kvs.map some) {z y : Str} (l : tabL kvs z = some y) : ∃ u, PySem.W.nsIn K d z = some (some u) ∧ RelV (.str y) u := by
  obtain ⟨e, h1, t, h2⟩ := find_tab h l
  refine ⟨e.val, ?_, t, h2⟩
  unfold PySem.W.nsIn
  rw [D.at_]
  dsimp only
  rw [h1]
section
variable {X : Cx} {x : Str} {i : Expr} {p pos : Pos} {d : Addr} {kvs : List (Str × Str)} {ty : TE}
end
section
variable {P : Program} {w : World} {K : PySem.W.Frag} {d : Addr} {es : Array DictEntry} {n : Nat} {kvs : List (Str × Str)}
end
section
variable {G : Glob} {X : Cx} {W : WX} {x : Str} {i : Expr} {p pos apos cpos tpos : Pos} {d : Addr} {kvs : List (Str × Str)} {elts : List Expr} {kk : Nat}
def tabD (kvs : List (Str × Str)) : List D := kvs.map fun q => .p (.tup [.str q.1, .str q.2])
def wTabI (kvs : List (Str × Str)) (r : Rho) (S : Store) : O (List D) := .ok (tabD kvs) S
theorem wTabI_e {kvs : List (Str × Str)} {r : Rho} {S : Store} : wTabI kvs r S = .ok (tabD kvs) S := (rfl)
def dGet2 (d k z : D) (S : Store) : O D := match keyOf k with
  | some ky => match d with
    | .p (.dK ks vs) => match klook ks vs ky with
      | some q => .ok (.p q) S
      | none => .ok z S
    | _ => .bad
  | none => .bad
def get2K2 (d k z : D) (S3 : Store) : O D := dGet2 d k z S3
def get2K1 (f2 : FE) (r : Rho) (d k : D) (S2 : Store) : O D := (f2 r S2).bind (get2K2 d k)
def get2K (f1 f2 : FE) (r : Rho) (d : D) (S1 : Store) : O D := match d with
  | .p (.dK _ _) => (f1 r S1).bind (get2K1 f2 r d)
  | _ => .bad
def wGet2 (f0 f1 f2 : FE) (r : Rho) (S : Store) : O D := (f0 r S).bind (get2K f1 f2 r)
theorem wGet2_e {f0 f1 f2 : FE} {r : Rho} {S : Store} : wGet2 f0 f1 f2 r S = (f0 r S).bind (get2K f1 f2 r) := (rfl)
theorem get2K_e {f1 f2 : FE} {r : Rho} {S : Store} {ks : List Key} {vs : List RB.P} : get2K f1 f2 r (.p (.dK ks vs)) S = (f1 r S).bind (get2K1 f2 r (.p (.dK ks vs))) := (rfl)
end
section
variable {G : Glob} {X : Cx}
def dListS (d : D) (S : Store) : O D := match d with
  | .p (.str z) => chk (decide (z.cps.size ≤ sizeLine)) (.p (.lst (z.cps.toList.map fun c => RB.P.str ⟨#[c]⟩))) S
  | _ => .bad
end
def dObs (ts : List He.Tab) (K : PySem.W.Frag) : List (Option (List (Option (Str × Int)))) := ts.map fun t => He.dicW K (t.1 K)
def dVal (ts : List He.Tab) (w : World) : List (Option (List (Option (Str × Int)))) := ts.map fun t => some (He.keysIn w.params t.2)
end RB.F
namespace RB.F
open PySem PySem.Spec PyProof.Rows L2 RB
section
open Builtin Builtin.ObjectAttr
variable {prog : Program} {w : World} {A : Around} {R : Result → Shared → Prop} {h0 : Heap} {gs : Array GenState} {dr : Drawn} {n0 : Nat} {os : OsState}
end
section
variable {X : Cx} {pins : List (Addr × Obj)} {σ : L2.St} {H : Hp} {s : Shared} {a C dx : Addr} {f : Str} {y : V} {u : Value} {fs : List (Str × V)} {Q : Unit → Shared → Prop} {E : Value → Shared → Prop} {A : Around}
end
section
variable {X : Cx} {o e : Expr} {f : Str} {p' pos : Pos} {to te : TE}
end
section
variable {P : Program} {w : World} {K : PySem.W.Frag} {mg : Str → Option Value} {base : Heap} {x qual : Str} {params : Arguments} {scope : Scope} {dvs : List V} {kws : List (Str × V)} {f : Addr} {fd : FuncData}
end
section
variable {X : Cx} {e : Expr} {t : L2.St → Hp → XK → Prop}
end
def mkX (c : String) (fs : List Str) (ds : List D) (S : Store) : O D := match allP ds with
  | some ps => chk (decide (ps.length = fs.length) && decide (fs.length ≤ 900)) (.p (.obj c fs.reverse ps.reverse)) S
  | none => .bad
def wMkX (c : String) (fs : List Str) (fa : FA) (r : Rho) (S : Store) : O D := (fa r S).bind (mkX c fs)
theorem wMkX_e {c : String} {fs : List Str} {fa : FA} {r : Rho} {S : Store} : wMkX c fs fa r S = (fa r S).bind (mkX c fs) := (rfl)
section
variable {G : Glob} {X : Cx} {W : WX} {n k : Nat} {f Cc : Addr} {fd : FuncData} {ps fs : List Str} {x : Str} {p pos : Pos} {e : Expr} {es : List Expr} {fa : FA} {c : String}
structure ExGs (K : PySem.W.Frag) (C fI : Addr) (fs : List Str) : Prop where
  T : OexG K C
  i : PySem.W.findIn K (.ref C) "__init__" = some (some (.ref fI))
  t : PySem.W.typeIn K (.ref fI) = some (.type "function")
  no : ∀ f ∈ fs, PySem.W.findIn K (.ref C) f = some none
structure Ex0 (K : PySem.W.Frag) (C : Addr) : Prop where
  at_ : ∃ B nw ini tl, BaseK B nw ini tl ∧ PySem.W.excIn K C tl nw = true
  kC : PySem.W.keepIn K (.ref C) = true
  exC : PySem.W.subIn K (.ref C) (.type "BaseException") = some true
  tyC : PySem.W.typeIn K (.ref C) = some (.type "type")
end
theorem Reps.rep {G : Glob} {I : Wd} {vs : List V} {ps : List RB.P} (r : Reps G I vs ps) : ∀ n : Nat, Reps G I (List.replicate n vs).flatten (List.replicate n ps).flatten
  | 0 => Reps.nil
  | n + 1 => by
    rw [List.replicate_succ, List.replicate_succ, List.flatten_cons, List.flatten_cons]
    exact r.append (Reps.rep r n)
def dMulL (d1 d2 : D) (S : Store) : O D := match d1, d2 with
  | .p (.lst xs), .p (.int i) => chk (decide (-(2 ^ 63 : Int) ≤ i) && (decide (i < 2 ^ 63) && decide (xs.length * i.toNat ≤ sizeLine))) (.p (.lst (List.replicate i.toNat xs).flatten)) S
  | _, _ => .bad
end RB.F
namespace RB.F
open PySem PySem.Spec PyProof.Rows L2 RB
structure SScope (N P : List Str) (sc : Scope) : Prop where
  kind : sc.kind = .function
  co : sc.isCoroutine = false
  gen : sc.isGenerator = false
  nd : N.Nodup
  pre : N.take P.length = P
  par : ∀ x ∈ P, sc.names.lookup x = some .local
  nocell : ∀ y ∈ sc.names, y.2 ≠ .cell
  free : ∀ y ∈ sc.names, y.2 = .free → y.1 = ("__class__" : Str)
section
variable {X : Cx} {body : List Stmt} {q : Str} {scope : Scope} {L f cda cc x C D dx : Addr} {pins : List (Addr × Obj)} {σ : L2.St} {H : Hp} {s : Shared} {fs : List (Str × V)} {fd : FuncData} {ar : Arg} {vs : Array Value} {file : Str} {tf : Tok} {oc ccl cl : Value} {od cdd cld : Option Addr} {osl ccs csl : Array (Option Value)} {cdD : ClassData}
structure SupC (K : PySem.W.Frag) (C D g : Addr) : Prop where
  sub : PySem.W.mroIn K C (.ref D) = some true
  nxt : PySem.W.ks_superIn K C D "__init__" = some (some (.ref g))
  ty : PySem.W.typeIn K (.ref g) = some (.type "function")
  fi : PySem.W.fnIn K g = true
  op : PySem.W.nsIn K cStatics "thirdparty.any" = some none
end
structure QS (X : Cx) (c : Code) (st : Stmt) (t : TS) : Prop where
  run : ∀ (pins : List (Addr × Obj)) (s : Shared) (σ : L2.St) (H : Hp) (D : Ends), Inv X pins σ H s → t D σ H → _root_.PySem.wpAt (model X.prog X.w) X.A c (exec st X.env) (SP X pins D) X.xe s
structure QSs (X : Cx) (c : Code) (st : List Stmt) (t : TS) : Prop where
  run : ∀ (pins : List (Addr × Obj)) (s : Shared) (σ : L2.St) (H : Hp) (D : Ends), Inv X pins σ H s → t D σ H → _root_.PySem.wpAt (model X.prog X.w) X.A c (execs st X.env) (SP X pins D) X.xe s
theorem QSs.imp {X : Cx} {c : Code} {e : List Stmt} {t u : TS} (h : QSs X c e t) (i : ∀ D σ H, u D σ H → t D σ H) : QSs X c e u := ⟨fun pins s σ H D I q => h.run pins s σ H D I (i D σ H q)⟩
theorem QS.of {X : Cx} {c : Code} {st : Stmt} {t : TS} (h : PS X st t) : QS X c st t := ⟨fun pins s σ H D I q => wpAt_of_wpAny (h.run pins s σ H D I q)⟩
theorem QSs.of {X : Cx} {c : Code} {st : List Stmt} {t : TS} (h : PSs X st t) : QSs X c st t := ⟨fun pins s σ H D I q => wpAt_of_wpAny (h.run pins s σ H D I q)⟩
structure ZS (G : Glob) (X : Cx) (W : WX) (c : Code) (st : Stmt) (m : WS) : Prop where
  ps : QS X c st (tMs G W m)
  mono : MonS m
structure ZSs (G : Glob) (X : Cx) (W : WX) (c : Code) (st : List Stmt) (m : WS) : Prop where
  ps : QSs X c st (tMs G W m)
  mono : MonS m
section
variable {G : Glob} {X : Cx} {W : WX} {n k m : Nat} {body : List Stmt} {q : Str} {scope : Scope} {L f cda cc Da g : Addr} {fd fd2 : FuncData} {ar : Arg} {vs : Array Value} {file : Str} {tf : Tok} {oc ccl cl : Value} {od cdd cld : Option Addr} {osl ccs csl : Array (Option Value)} {cdD : ClassData} {p0 p1 apos pos pos' : Pos} {e : Expr} {es : List Expr} {ps : List Str} {sp : DSp} {gD : List D → List D → List D} {ma : WA} {cs : List String}
end
section
variable {G : Glob} {P : Program} {w : World} {mg : Str → Option Value} {base : Heap} {x qual : Str} {params : Arguments} {body : List Stmt} {scope : Scope} {f cc : Addr} {dV kV doc pm cdv ct oc cl cv : Value} {an od cld : Option Addr} {osl csl : Array (Option Value)}
end
end RB.F
namespace RB.F
open PySem PySem.Spec PyProof.Rows L2 RB
section
variable {G : Glob} {X : Cx} {W : WX} {c : Code} {st : Stmt} {rest : List Stmt} {f1 f2 f : FS}
def YS (G : Glob) (X : Cx) (W : WX) (c : Code) (st : Stmt) (f : FS) : Prop := ZS G X W c st (lfS f)
def YSs (G : Glob) (X : Cx) (W : WX) (c : Code) (st : List Stmt) (f : FS) : Prop := ZSs G X W c st (lfS f)
theorem YS.of {m : WS} (h : ZS G X W c st m) (i : ∀ D r S, outS (f r S) D → m D r S) : YS G X W c st f :=
  ⟨⟨fun pins s σ H D I ⟨w, S, r, ok, en, q⟩ => h.ps.run pins s σ H D I ⟨w, S, r, ok, en, i _ _ _ q⟩⟩, lfS_mon f⟩
theorem YSs.of {m : WS} {st : List Stmt} (h : ZSs G X W c st m) (i : ∀ D r S, outS (f r S) D → m D r S) : YSs G X W c st f :=
  ⟨⟨fun pins s σ H D I ⟨w, S, r, ok, en, q⟩ => h.ps.run pins s σ H D I ⟨w, S, r, ok, en, i _ _ _ q⟩⟩, lfS_mon f⟩
end
section
variable {G : Glob} {P : Program} {w : World} {mg : Str → Option Value} {base : Heap} {x qual : Str} {params : Arguments} {body : List Stmt} {scope : Scope} {f cc : Addr} {dV kV doc pm cdv ct oc cl cv : Value} {an od cld : Option Addr} {osl csl : Array (Option Value)}
end
end RB.F
namespace RB.F
open PySem PySem.Spec PyProof.Rows L2 RB
structure FunT (K : PySem.W.Frag) (x qual : Str) (params : Arguments) (body : List Stmt) (scope : Scope) (dvs : List V) (kws : List (Str × V)) (file : Str) (D f : Addr) (fd : FuncData) : Prop where
  ex : ∃ (oc : Value) (od : Option Addr) (dV kV doc pm : Value) (an : Option Addr) (cda : Addr) (ct : Value) (osl : Array (Option Value)) (cc : Addr) (cl : Value) (cld : Option Addr) (csl : Array (Option Value)) (ccl : Value) (cdd : Option Addr) (vs : Array Value) (ccs : Array (Option Value)) (tf : Tok) (cdD : ClassData),
    fd = PySem.W.ksFn x qual params body scope dV kV doc pm an (.ref cda) ct cc ∧ K.lookup f = some ⟨oc, od, .func fd, osl⟩ ∧ PySem.W.codeIn K (.ref cda) qual = true ∧ DflV K dV dvs ∧ KwdV K kV kws ∧
    K.lookup cc = some ⟨cl, cld, .cell (some (.ref D)), csl⟩ ∧ K.lookup cda = some ⟨ccl, cdd, .fields vs, ccs⟩ ∧ vs[2]? = some (.str file tf) ∧ PySem.W.clsIn K D = some cdD
  kp : PySem.W.keepIn K (.ref f) = true
section
variable {K : PySem.W.Frag} {x qual file : Str} {params : Arguments} {body : List Stmt} {scope : Scope} {dvs : List V} {kws : List (Str × V)} {D f : Addr} {fd : FuncData} {ps : List Str}
end
structure SupI (X : Cx) (q : Str) (scope : Scope) (ps : Arguments) (D : Addr) (file : Str) : Prop where
  ex : ∃ (L f cda cc : Addr) (fd : FuncData) (oc : Value) (od : Option Addr) (osl : Array (Option Value)) (cl : Value) (cld : Option Addr) (csl : Array (Option Value)) (ccl : Value) (cdd : Option Addr) (vs : Array Value) (ccs : Array (Option Value)) (tf : Tok) (cdD : ClassData),
    X.env = PySem.W.ksEnv q scope L f (.ref cda) cc ∧ X.K.lookup f = some ⟨oc, od, .func fd, osl⟩ ∧ fd.params = ps ∧ X.K.lookup cda = some ⟨ccl, cdd, .fields vs, ccs⟩ ∧ vs[2]? = some (.str file tf) ∧
    X.K.lookup cc = some ⟨cl, cld, .cell (some (.ref D)), csl⟩ ∧ PySem.W.clsIn X.K D = some cdD
section
variable {G : Glob} {P : Program} {w : World} {mg : Str → Option Value} {base : Heap} {x qual file : Str} {params : Arguments} {body : List Stmt} {scope : Scope} {D f : Addr} {fd : FuncData} {dvs : List V} {kws : List (Str × V)}
end
section
variable {G : Glob} {qual file : Str} {params : Arguments} {body : List Stmt} {scope : Scope}
variable {X : Cx} {W : WX} {n k m : Nat} {q : Str} {Da g : Addr} {fd2 : FuncData} {ar : Arg} {p0 p1 apos pos pos' : Pos} {e : Expr} {es : List Expr} {ps : List Str} {mf : FD} {gD : List D → List D → List D} {fa : FA} {cs : List String}
end
end RB.F
namespace RB.F
open PySem PySem.Spec PyProof.Rows L2 RB
abbrev FnS : Type := Option (Str × Str × Arguments × FuncBody × Scope × Addr × List Str × Addr)
def fAdR (K : PySem.W.Frag) (p : Str × Option Str) : Addr := match PySem.W.recIn K (He.fAd K p) "property" with
  | some (.ref g :: _) => g
  | _ => (match PySem.W.recIn K (He.fAd K p) "classmethod" with
    | some (.ref g :: _) => g
    | _ => He.fAd K p)
def fnAt (K : PySem.W.Frag) (a : Addr) : FnS := match K.lookup a with
  | some ⟨_, _, .func z, _⟩ => some (z.name, z.qualname, z.params, z.body, z.scope, z.globals, z.closure.map (·.1), z.builtins)
  | _ => none
def isP (d : He.DefD × Str) : Bool := d.2.cps.isEmpty
def fnS (K : PySem.W.Frag) (d : He.DefD × Str) : FnS := match isP d with
  | true => fnAt K (fAdR K d.1.at_)
  | false => fnAt K (He.fAd K d.1.at_)
def valS (d : He.DefD × Str) : FnS := some (d.1.name, d.1.qual, d.1.params, .stmts d.1.body, d.1.scope, mainGlobals, (match isP d with
  | true => []
  | false => ["__class__"]), builtinsNs)
def cellB (K : PySem.W.Frag) (D : Addr) (cl : List (Str × Addr)) : Bool := match cl with
  | [(_, cc)] => (match K.lookup cc with
    | some ⟨_, _, .cell (some (.ref a)), _⟩ => decide (a = D)
    | _ => false)
  | _ => false
def codF (K : PySem.W.Frag) (file : Str) (v : Value) : Bool := match v with
  | .ref c => (match K.lookup c with
    | some ⟨_, _, .fields vs, _⟩ => (match (vs[2]? : Option Value) with
      | some (.str f _) => decide (f = file)
      | _ => false)
    | _ => false)
  | _ => false
def prpB (K : PySem.W.Frag) (d : He.DefD × Str) : Bool := PySem.W.keepIn K (.ref (fAdR K d.1.at_)) && (match K.lookup (fAdR K d.1.at_) with
  | some ⟨_, _, .func z, _⟩ => PySem.W.codeIn K z.code d.1.qual && (He.dflB K z.defaults (d.1.dvs K) && He.kwdB K z.kwdefaults (d.1.kws K))
  | _ => false)
def supB1 (file : Str) (K : PySem.W.Frag) (d : He.DefD × Str) : Bool := PySem.W.keepIn K (.ref (He.fAd K d.1.at_)) && ((PySem.W.clsIn K (He.ga K d.2)).isSome && (match K.lookup (He.fAd K d.1.at_) with
  | some ⟨_, _, .func z, _⟩ => PySem.W.codeIn K z.code d.1.qual && (He.dflB K z.defaults (d.1.dvs K) && (He.kwdB K z.kwdefaults (d.1.kws K) && (cellB K (He.ga K d.2) z.closure && codF K file z.code)))
  | _ => false))
def supB (file : Str) (K : PySem.W.Frag) (d : He.DefD × Str) : Bool := match isP d with
  | true => prpB K d
  | false => supB1 file K d
theorem funR_of {K : PySem.W.Frag} {d : He.DefD × Str} (hp : isP d = true) {file : Str} (e : fnS K d = valS d) (c : supB file K d = true) :
    ∃ fd, FunD K d.1.name d.1.qual d.1.params d.1.body d.1.scope (d.1.dvs K) (d.1.kws K) (fAdR K d.1.at_) fd := by
  unfold supB at c
  unfold fnS valS at e
  rw [hp] at c e
  dsimp only at c e
  obtain ⟨kp, c⟩ := and2 c
  unfold fnAt at e
  split at c
  · rename_i oc od z osl lk
    rw [lk] at e
    obtain ⟨n1, n2, n3, n4, n5, n6, n7, n8, n9, n10, n11, n12, n13, n14, n15⟩ := z
    have e : (some (n1, n2, n3, n4, n5, n6, n7.map (·.1), n15) : FnS) = some (d.1.name, d.1.qual, d.1.params, FuncBody.stmts d.1.body, d.1.scope, mainGlobals, ([] : List Str), builtinsNs) := e
    simp only [Option.some.injEq, Prod.mk.injEq] at e
    obtain ⟨h1, h2, h3, h4, h5, h6, h7, h8⟩ := e
    have h7 := List.map_eq_nil_iff.mp h7
    subst h1 h2 h3 h4 h5 h6 h7 h8
    obtain ⟨c1, c⟩ := and2 c
    obtain ⟨c2, c3⟩ := and2 c
    exact ⟨_, ⟨oc, od, n8, n9, n10, n11, n12, n13, n14, osl, rfl, lk, c1, He.dflB_ok c2, He.kwdB_ok c3⟩, kp⟩
  · cases c
abbrev AlU : Type := (He.AlD × Bool) × List FnS × List (Option (List (Option (Str × Int))))
structure HdU where
  fa : List He.Fa
  fn : List He.DefD
  ck : PySem.W.Frag → Bool
  sd : List (He.DefD × Str)
  ts : List He.Tab
  lt : List (Str × Option Str)
  file : Str
def obsUG (n : Nat) (h : HdU) (g : Addr → Option Obj) : AlU :=
  (fun (K : PySem.W.Frag) => ((He.obsD h.fa h.fn K, (K.lookup sysModules).isSome && (h.ck K && (tabsB g K h.lt (csG n h.lt g) && h.sd.all (supB h.file K)))), h.sd.map (fnS K), dObs h.ts K)) (He.frG g (asG n (csG n h.lt g)))
structure SaysU (h : HdU) (w : World) (K : PySem.W.Frag) : Prop where
  d : He.SaysD h.fa h.fn K
  sys : KSys K
  ck : h.ck K = true
  dic : dObs h.ts K = dVal h.ts w
  sup : h.sd.map (fnS K) = h.sd.map valS ∧ h.sd.all (supB h.file K) = true
def hookU (n : Nat) (h : HdU) : PySem.W.Hook where
  α := AlU
  obs := fun s => obsUG n h s.heap.get?
  val := fun w => ((He.valD h.fn, true), h.sd.map valS, dVal h.ts w)
  says := fun w hp => ∃ K : PySem.W.Frag, K.In hp ∧ SaysU h w K ∧ ∃ cs, TabsIn K hp h.lt cs
  of := fun w s e => by
    have e1 := congrArg (fun z : AlU => z.1.1) e
    have e2 := congrArg (fun z : AlU => z.1.2) e
    have e3 := congrArg (fun z : AlU => z.2.1) e
    have e4 := congrArg (fun z : AlU => z.2.2) e
    obtain ⟨a1, a2⟩ := and2 e2
    obtain ⟨a2, a3⟩ := and2 a2
    obtain ⟨b0, b1⟩ := and2 a3
    obtain ⟨b2, b3⟩ := and2 b0
    obtain ⟨b3, b4⟩ := and2 b3
    refine ⟨_, He.frG_in, ⟨e1, Option.isSome_iff_exists.mp a1, a2, e4, e3, b1⟩, _, of_decide_eq_true b2, of_decide_eq_true b3, fun q hq => ?_, fun q hq => frG_out fun z => ?_⟩
    · obtain ⟨c1, c2⟩ := and2 (List.all_eq_true.mp b4 q hq)
      obtain ⟨c2, c3⟩ := and2 c2
      exact ⟨emptyB_ok c1, codeB_ok He.frG_in c2, of_decide_eq_true c3⟩
    · have z2 := (List.mem_filter.mp z).2
      have z3 : ((csG n h.lt s.heap.get?).any fun q' => q'.2 == q.2) = true := List.any_eq_true.mpr ⟨q, hq, by simp⟩
      rw [z3] at z2
      cases z2
  keeps := fun w h1 h2 ⟨K, hK, c, cs, t⟩ k => ⟨K, PySem.W.Frag.In.keeps hK k, c, cs, t.len, t.nd, fun q hq => ⟨k _ _ (t.at_ q hq).1, (t.at_ q hq).2.1.keeps k, (t.at_ q hq).2.2⟩, t.out⟩
theorem obsUG_eq {n : Nat} {h : HdU} {g : Addr → Option Obj} {s : Shared} (e : ∀ a, g a = s.heap.get? a) : obsUG n h g = (hookU n h).obs s := by
  have e : g = s.heap.get? := funext e
  rw [e]
  rfl
theorem SaysU.prp_ {h : HdU} {w : World} {K : PySem.W.Frag} (c : SaysU h w K) (i : Nat) {d : He.DefD × Str} (e : h.sd[i]? = some d := by rfl) (hp : isP d = true := by decide +kernel) :
    ∃ fd, FunD K d.1.name d.1.qual d.1.params d.1.body d.1.scope (d.1.dvs K) (d.1.kws K) (fAdR K d.1.at_) fd := by
  have z : (h.sd.map (fnS K))[i]? = (h.sd.map valS)[i]? := by rw [c.sup.1]
  rw [List.getElem?_map, List.getElem?_map, e] at z
  exact funR_of hp (Option.some.inj z) (List.all_eq_true.mp c.sup.2 d (List.mem_of_getElem? e))
end RB.F
namespace RB.F
open PySem PySem.Spec PyProof.Rows L2 RB
section
variable {G : Glob} {X : Cx} {W : WX}
def frzVK (i : Nat) (r : Rho) (d : D) (S : Store) : R := .nx (r.set i (some d)) S
def frzV (i : Nat) (r : Rho) (S : Store) : R := match r[i]? with
  | some (some d) => (frz d S).st r (frzVK i r)
  | _ => .bad
def wFrzV (i : Nat) (f : FS) (r : Rho) (S : Store) : R := (f r S).seq (frzV i)
def orXK (f2 : FE) (r : Rho) (d : D) (S1 : Store) : O D := match d with
  | .p .non => f2 r S1
  | .p (.bl true) => .ok (.p (.bl true)) S1
  | .p (.bl false) => f2 r S1
  | .p (.tup []) => f2 r S1
  | .p (.tup (x :: xs)) => .ok (.p (.tup (x :: xs))) S1
  | _ => .bad
def wOrX (f1 f2 : FE) (r : Rho) (S : Store) : O D := (f1 r S).bind (orXK f2 r)
theorem wOrX_e {f1 f2 : FE} {r : Rho} {S : Store} : wOrX f1 f2 r S = (f1 r S).bind (orXK f2 r) := (rfl)
theorem orXK_n {f2 : FE} {r : Rho} {S : Store} : orXK f2 r (.p .non) S = f2 r S := (rfl)
theorem orXK_t {f2 : FE} {r : Rho} {S : Store} {x : P} {xs : List P} : orXK f2 r (.p (.tup (x :: xs))) S = .ok (.p (.tup (x :: xs))) S := (rfl)
theorem wFrzV_e {i : Nat} {f : FS} {r : Rho} {S : Store} : wFrzV i f r S = (f r S).seq (frzV i) := (rfl)
theorem frzVK_e {i : Nat} {r : Rho} {d : D} {S : Store} : frzVK i r d S = .nx (r.set i (some d)) S := (rfl)
end
end RB.F
namespace RB.F
open PySem PySem.Spec PyProof.Rows L2 RB
def endsN (Q : DK) (E : EK) : DE := ⟨fun _ S => Q (.p .non) S, fun d S => Q d S, fun _ _ => False, fun _ _ => False, fun _ x S => E x S⟩
def finN (o : R) : O D := match o with
  | .nx _ S => .ok (.p .non) S
  | .rt d S => .ok d S
  | .ex _ x S => .ex x S
  | _ => .bad
theorem finN_nx {r : Rho} {S : Store} : finN (.nx r S) = .ok (.p .non) S := (rfl)
theorem finN_rt {d : D} {S : Store} : finN (.rt d S) = .ok d S := (rfl)
theorem finN_ex {r : Rho} {x : Exc} {S : Store} : finN (.ex r x S) = .ex x S := (rfl)
def fnN (N ps : List Str) (f : FS) (ds : List D) (S : Store) : O D := if decide (ds.length = ps.length) then finN (f (startR N ds) S) else .bad
theorem fnN_len {N ps : List Str} {f : FS} (ds : List D) (S : Store) (Q : DK) (E : EK) (h : spF (fnN N ps f) ds S Q E) : ds.length = ps.length := by
  unfold spF fnN at h
  split at h
  · rename_i e; exact of_decide_eq_true e
  · exact h.elim
theorem fnN_pur {N ps : List Str} {f : FS} (ds : List D) (S : Store) (Q : DK) (E : EK) (h : spF (fnN N ps f) ds S Q E) : lfS f (endsN Q E) (startR N ds) S := by
  unfold spF fnN at h
  split at h
  · show outS (f (startR N ds) S) _
    cases e : f (startR N ds) S with
    | bk r S => rw [e] at h; exact h.elim
    | ct r S => rw [e] at h; exact h.elim
    | _ => rw [e] at h; exact h
  · exact h.elim
section
variable {G : Glob} {P : Program} {w : World} {mg : Str → Option Value} {base : Heap} {x qual : Str} {params : Arguments} {body : List Stmt} {scope : Scope} {dvs : List V} {kws : List (Str × V)} {f : Addr} {fd : FuncData}
theorem fn_fN {N ps : List Str} {k : Nat} {ff : FS} (F : FunD G.K x qual params body scope dvs kws f fd) (S : FnScope N ps scope)
    (hbody : ∀ (cdv : Value) (A : Around) (outer : List Env) (s : Shared) (H : Hp) (E : XK), cdv = fd.code → CxG G (cxOf (L2.CX P w) P w G.K mg base N qual scope f cdv A outer s H E) (fun cls d _ H' => E cls d H') k →
      RSs G (cxOf (L2.CX P w) P w G.K mg base N qual scope f cdv A outer s H E) (fun cls d _ H' => E cls d H') body ff) : FnG G P w mg base (k + 1) f fd ps (spF (fnN N ps ff)) := by
  obtain ⟨oc, od, dV, kV, doc, pm, an, cdv, ct, osl, rfl, lk, hcd, _, _⟩ := F.ex
  refine ⟨spF_mon _, fnN_len, fun A outer s H args us vs Q E hr hg e0 hb r hsp => ?_⟩
  obtain ⟨wd, St, ds, ok, rd, hsp⟩ := hsp
  have hl : vs.length = ps.length := by rw [rd.length]; exact fnN_len _ _ _ _ hsp
  have up : ∀ b o, base.get? b = some o → s.heap.get? b = some o := fun b o e => (e0.bs b o e).1
  have KX : G.K.In s.heap := e0.mod.kin.keeps up
  have lim : s.heap.NoLimit := e0.mod.nolimit.keeps up
  refine codeAny_call_function hr.depth (KX _ _ lk) rfl S.co S.gen rfl (PySem.W.codeRec_of KX hcd) (hb _ _ _ _ ?_)
  refine wpAny_newFunctionEnv_cells S.kind (fun y hy => ?_) fun env he s1 x => ?_
  · rcases S.par y.1 (List.of_mem_zip (show (y.1, y.2) ∈ ps.zip us from hy)).1 with q | q
    · exact .inl q
    · exact .inr ⟨q, PySem.W.cellsFrom_some _ _ _ (.inl q)⟩
  subst he
  refine ⟨lim.keeps x.toInCall.keep, codeAny_func ?_⟩
  have C : CxG G (cxOf (L2.CX P w) P w G.K mg base N qual scope f cdv A outer s H E) (fun cls d _ H' => E cls d H') k := ⟨rfl, takes_of rfl rfl rfl rfl, hr.deeper _, hg, rfl⟩
  have B := hbody cdv A outer s H E rfl C
  have I := inv_start (CX := L2.CX P w) (E := E) S hr.hd e0 hl r x
  have low : tMs G (fun cls d _ H' => E cls d H') (lfS ff) { nx := fun _ H' => Q .non H', rt := Q } (L2.start N vs) H := by
    refine ⟨wd, St, startR N ds, ok, start_ok rd, B.mono (endsN (Qv G wd H Q) (Qx G wd H E)) _ _ _ ⟨fun r S' q τ w' H' x k en => ?_, fun d S' q => q, fun _ _ z => z.elim, fun _ _ z => z.elim, fun r y S' q τ c d w' H' x k en rx => ?_⟩ (fnN_pur _ _ _ _ hsp)⟩
    · exact q .non w' H' x k (rep_non.mpr rfl)
    · exact q c d w' H' x k rx
  refine wpAny_mono (B.ps.run [] s1 (L2.start N vs) H _ I low) (fun fl s' hs => ?_) fun e s' hs => hs
  cases fl with
  | ret u =>
    obtain ⟨v, σ', H', J, rv, q⟩ := hs
    exact ⟨v, H', J.os, J.bare, J.base, J.hok, rv, q⟩
  | next =>
    obtain ⟨σ', H', J, q⟩ := hs
    exact ⟨V.non, H', J.os, J.bare, J.base, J.hok, rfl, q⟩
  | brk => exact hs.choose_spec.choose_spec.2.elim
  | cont => exact hs.choose_spec.choose_spec.2.elim
end
section
variable {G : Glob} {X : Cx} {W : WX} {e : Expr} {f : FE}
def nrm (d : D) : D := match d with
  | .p (.cel n) => .cell n
  | d => d
def lay (d : D) : D := match d with
  | .cell n => .p (.cel n)
  | d => d
def wN (f : FE) (r : Rho) (S : Store) : O D := (f r S).bind fun d S1 => .ok (nrm d) S1
def wL (f : FE) (r : Rho) (S : Store) : O D := (f r S).bind fun d S1 => .ok (lay d) S1
theorem repD_nrm {w : Wd} {v : V} {d : D} (h : RepD G w v d) : RepD G w v (nrm d) := by
  unfold nrm
  split
  · have h : Rep G w v (.cel _) := h
    simp only [Rep] at h
    exact rep_cell.mpr h.2
  · exact h
theorem repD_lay {w : Wd} {v : V} {d : D} (hc : G.cels = true) (h : RepD G w v d) : RepD G w v (lay d) := by
  unfold lay
  split
  · show Rep G w v (.cel _)
    simp only [Rep]
    exact ⟨hc, rep_cell.mp h⟩
  · exact h
theorem re_nrm (h : RE G X W e f) : RE G X W e (wN f) := by
  refine ⟨PE.imp h.pe fun σ H Q ⟨w, S, r, ok, en, q⟩ => ⟨w, S, r, ok, en, ?_⟩, lf_mon _⟩
  have q : out ((f r S).bind fun d S1 => .ok (nrm d) S1) _ _ := q
  rw [out_bind] at q
  exact out_mono q (fun d S1 z v w1 H1 x1 k1 r1 => z v w1 H1 x1 k1 (repD_nrm r1)) fun _ _ z => z
theorem re_lay (hc : G.cels = true) (h : RE G X W e f) : RE G X W e (wL f) := by
  refine ⟨PE.imp h.pe fun σ H Q ⟨w, S, r, ok, en, q⟩ => ⟨w, S, r, ok, en, ?_⟩, lf_mon _⟩
  have q : out ((f r S).bind fun d S1 => .ok (lay d) S1) _ _ := q
  rw [out_bind] at q
  exact out_mono q (fun d S1 z v w1 H1 x1 k1 r1 => z v w1 H1 x1 k1 (repD_lay hc r1)) fun _ _ z => z
end
def Glob.one (G : Glob) : Glob := { G with cels := false, I0 := fun _ => none, as0 := [] }
mutual
def freeP : P → Bool
  | .cel _ => false
  | .tup ds => freePs ds
  | .lst ds => freePs ds
  | .scr ds => freePs ds
  | .dK _ ds => freePs ds
  | .dT _ ds => freePs ds
  | .fK _ ds => freePs ds
  | .obj _ _ ds => freePs ds
  | _ => true
def freePs : List P → Bool
  | [] => true
  | d :: ds => freeP d && freePs ds
end
mutual
def bareP : P → Bool
  | .lst _ => false
  | .scr _ => false
  | .tup ds => barePs ds
  | .dK _ ds => barePs ds
  | .dT _ ds => barePs ds
  | .fK _ ds => barePs ds
  | .obj _ _ ds => barePs ds
  | _ => true
def barePs : List P → Bool
  | [] => true
  | d :: ds => bareP d && barePs ds
end
section
variable {G : Glob}
mutual
theorem Rep.toOne {I I' : Wd} (s : Same I.I I'.I) : ∀ {d : P} {v : V}, freeP d = true → Rep G I v d → Rep (Glob.one G) I' v d
  | .non, _, _, h | .bl _, _, _, h | .int _, _, _, h | .str _, _, _, h | .ty _, _, _, h => by simpa only [Rep] using h
  | .tup ds, _, f, h => by
    simp only [Rep] at h ⊢
    simp only [freeP] at f
    obtain ⟨a, vs, e, q, r⟩ := h
    exact ⟨a, vs, e, Same.tup s q, Reps.toOne s f r⟩
  | .lst ds, _, f, h => by
    simp only [Rep] at h ⊢
    simp only [freeP] at f
    obtain ⟨a, vs, e, q, r⟩ := h
    exact ⟨a, vs, e, s _ _ q, Reps.toOne s f r⟩
  | .scr ds, _, f, h => by
    simp only [Rep] at h ⊢
    simp only [freeP] at f
    obtain ⟨a, vs, e, q, r⟩ := h
    exact ⟨a, vs, e, Same.seq s q, Reps.toOne s f r⟩
  | .dK ks ds, _, f, h | .dT ks ds, _, f, h => by
    simp only [Rep] at h ⊢
    simp only [freeP] at f
    obtain ⟨a, vs, e, q, k, r⟩ := h
    exact ⟨a, vs, e, s _ _ q, k, Reps.toOne s f r⟩
  | .fK ks ds, _, f, h => by
    simp only [Rep] at h ⊢
    simp only [freeP] at f
    obtain ⟨a, vs, o, e, q, k, r⟩ := h
    exact ⟨a, vs, o, e, s _ _ q, k, Reps.toOne s f r⟩
  | .obj c ns ds, _, f, h => by
    simp only [Rep] at h ⊢
    simp only [freeP] at f
    obtain ⟨a, C, fs, e, g, q, k, r⟩ := h
    exact ⟨a, C, fs, e, g, q.mono s, k, Reps.toOne s f r⟩
  | .cel n, _, f, _ => by simp [freeP] at f
theorem Reps.toOne {I I' : Wd} (s : Same I.I I'.I) : ∀ {ds : List P} {vs : List V}, freePs ds = true → Reps G I vs ds → Reps (Glob.one G) I' vs ds
  | [], _, _, h => by simpa only [Reps] using h
  | d :: ds, _, f, h => by
    simp only [Reps] at h ⊢
    simp only [freePs, Bool.and_eq_true] at f
    obtain ⟨v, r, e, h1, h2⟩ := h
    exact ⟨v, r, e, Rep.toOne s f.1 h1, Reps.toOne s f.2 h2⟩
end
def lessI (I : Hp) (bs : List Addr) : Hp := fun a => if a ∈ bs then none else I a
def ListsAt (I : Hp) (bs : List Addr) : Prop := ∀ b ∈ bs, ∃ vs, I b = some (.lst vs)
theorem less_keep {I : Hp} {bs : List Addr} (hl : ListsAt I bs) {a : Addr} {o : HO} (h : I a = some o) (hn : ∀ vs, o ≠ .lst vs) : lessI I bs a = some o := by
  unfold lessI
  split
  · rename_i m
    obtain ⟨vs, e⟩ := hl a m
    rw [h] at e
    cases e
    exact absurd rfl (hn vs)
  · exact h
theorem less_nil {I : Hp} : lessI I [] = I := by
  funext a
  unfold lessI
  rw [if_neg (by simp)]
theorem less_tup {K : PySem.W.Frag} {I : Hp} {bs : List Addr} (hl : ListsAt I bs) {a : Addr} {xs : List V} (h : SqT K I a xs) : SqT K (lessI I bs) a xs := by
  rcases h with (h | ⟨o, h⟩) | h
  · exact .inl (.inl (less_keep hl h (by intro _ z; cases z)))
  · exact .inl (.inr ⟨o, less_keep hl h (by intro _ z; cases z)⟩)
  · exact .inr h
theorem less_obj {x : Bool} {I : Hp} {bs : List Addr} (hl : ListsAt I bs) {a C : Addr} {fs : List (Str × V)} (h : ObjAt x I a C fs) : ObjAt x (lessI I bs) a C fs := by
  rcases h with ⟨e, dx, h⟩ | ⟨e, dd, h, q⟩
  · exact .inl ⟨e, dx, less_keep hl h (by intro _ z; cases z)⟩
  · refine .inr ⟨e, dd, less_keep hl h (by intro _ z; cases z), ?_⟩
    rcases q with q | ⟨d, e, q⟩
    · exact .inl q
    · exact .inr ⟨d, e, less_keep hl q (by intro _ z; cases z)⟩
mutual
theorem Rep.fromOne {I : Wd} {bs : List Addr} {as' ts' : List Addr} (hl : ListsAt I.I bs) : ∀ {d : P} {v : V}, (bs = [] ∨ bareP d = true) → Rep (Glob.one G) I v d → Rep G ⟨lessI I.I bs, as', ts'⟩ v d
  | .non, _, _, h | .bl _, _, _, h | .int _, _, _, h | .str _, _, _, h | .ty _, _, _, h => by simpa only [Rep] using h
  | .tup ds, _, f, h => by
    simp only [Rep] at h ⊢
    simp only [bareP] at f
    obtain ⟨a, vs, e, q, r⟩ := h
    exact ⟨a, vs, e, less_tup hl q, Reps.fromOne hl f r⟩
  | .lst ds, _, f, h => by
    simp only [Rep] at h ⊢
    rcases f with rfl | f
    · obtain ⟨a, vs, e, q, r⟩ := h
      exact ⟨a, vs, e, by rw [less_nil]; exact q, Reps.fromOne hl (.inl rfl) r⟩
    · simp [bareP] at f
  | .scr ds, _, f, h => by
    simp only [Rep] at h ⊢
    rcases f with rfl | f
    · obtain ⟨a, vs, e, q, r⟩ := h
      exact ⟨a, vs, e, by rw [less_nil]; exact q, Reps.fromOne hl (.inl rfl) r⟩
    · simp [bareP] at f
  | .dK ks ds, _, f, h | .dT ks ds, _, f, h => by
    simp only [Rep] at h ⊢
    simp only [bareP] at f
    obtain ⟨a, vs, e, q, k, r⟩ := h
    exact ⟨a, vs, e, less_keep hl q (by intro _ z; cases z), k, Reps.fromOne hl f r⟩
  | .fK ks ds, _, f, h => by
    simp only [Rep] at h ⊢
    simp only [bareP] at f
    obtain ⟨a, vs, o, e, q, k, r⟩ := h
    exact ⟨a, vs, o, e, less_keep hl q (by intro _ z; cases z), k, Reps.fromOne hl f r⟩
  | .obj c ns ds, _, f, h => by
    simp only [Rep] at h ⊢
    simp only [bareP] at f
    obtain ⟨a, C, fs, e, g, q, k, r⟩ := h
    exact ⟨a, C, fs, e, g, less_obj hl q, k, Reps.fromOne hl f r⟩
  | .cel n, _, _, h => by
    simp only [Rep] at h
    exact absurd h.1 (by show ¬ (false = true); decide)
theorem Reps.fromOne {I : Wd} {bs : List Addr} {as' ts' : List Addr} (hl : ListsAt I.I bs) : ∀ {ds : List P} {vs : List V}, (bs = [] ∨ barePs ds = true) → Reps (Glob.one G) I vs ds → Reps G ⟨lessI I.I bs, as', ts'⟩ vs ds
  | [], _, _, h => by simpa only [Reps] using h
  | d :: ds, _, f, h => by
    simp only [Reps] at h ⊢
    simp only [barePs, Bool.and_eq_true] at f
    obtain ⟨v, r, e, h1, h2⟩ := h
    exact ⟨v, r, e, Rep.fromOne hl (f.imp id fun z => z.1) h1, Reps.fromOne hl (f.imp id fun z => z.2) h2⟩
end
end
def freeC : Cell → Bool
  | .lst ps => freePs ps
  | .dK _ vs => freePs vs
  | .obj _ _ vs => freePs vs
  | .dead => false
def bareC : Cell → Bool
  | .lst ps => barePs ps
  | .dK _ vs => barePs vs
  | .obj _ _ vs => barePs vs
  | .dead => false
def liveC : Cell → Bool
  | .dead => false
  | _ => true
def borrow (S : Store) (d : D) : Option (D × List Nat) := match d with
  | .p p => if freeP p = true then some (.p p, []) else none
  | .cell n => (match S[n]? with
    | some (.lst ps) => if freePs ps = true then some (.p (.lst ps), [n]) else none
    | _ => none)
  | .fn => none
def borrows (S : Store) : List D → Option (List D × List Nat)
  | [] => some ([], [])
  | d :: ds => match borrow S d, borrows S ds with
    | some (e, ns), some (es, ms) => some (e :: es, ns ++ ms)
    | _, _ => none
def back0 (bs : List Nat) (S : Store) (o : O D) : O D := match o with
  | .ok (.p v) _ => if bs.isEmpty = true ∨ bareP v = true then .ok (.p v) S else .bad
  | .ok (.cell 0) [.lst ps] => if bs.isEmpty = true ∨ barePs ps = true then .ok (.cell S.length) (S ++ [.lst ps]) else .bad
  | .ex x _ => if bs.isEmpty = true ∨ barePs x.vs = true then .ex x S else .bad
  | _ => .bad
def back1 (n : Nat) (bs : List Nat) (S : Store) (o : O D) : O D := match o with
  | .ok (.p v) (c' :: _) => if liveC c' = true ∧ (bs.isEmpty = true ∨ bareP v = true ∧ bareC c' = true) then .ok (.p v) (S.set n c') else .bad
  | .ok (.cell 1) [c', .lst ps] => if liveC c' = true ∧ (bs.isEmpty = true ∨ barePs ps = true ∧ bareC c' = true) then .ok (.cell S.length) (S.set n c' ++ [.lst ps]) else .bad
  | .ex x (c' :: _) => if liveC c' = true ∧ (bs.isEmpty = true ∨ barePs x.vs = true ∧ bareC c' = true) then .ex x (S.set n c') else .bad
  | _ => .bad
def lift0 (m : FD) (ds : List D) (S : Store) : O D := match borrows S ds with
  | some (es, bs) => back0 bs S (m es [])
  | none => .bad
def lift1 (m : FD) (n : Nat) (ds : List D) (S : Store) (c : Cell) : O D := match borrows S ds with
  | some (es, bs) => if freeC c = true then back1 n bs S (m (.cell 0 :: es) [c]) else .bad
  | none => .bad
def liftM (m : FD) (ds : List D) (S : Store) : O D := match ds with
  | .cell n :: rest => (match S[n]? with
    | some (.dK ks vs) => lift1 m n rest S (.dK ks vs)
    | some (.obj c ns vs) => lift1 m n rest S (.obj c ns vs)
    | _ => lift0 m ds S)
  | _ => lift0 m ds S
section
variable {G : Glob} {w : Wd} {S : Store} {H : Hp}
def lent (w : Wd) (H : Hp) (bs : List Addr) : Hp := fun b => if b ∈ bs then H b else w.I b
theorem lent_sub {bs : List Addr} (k : Wok G w S H) : Same (lent w H bs) H := fun b o h => by
  unfold lent at h
  split at h
  · exact h
  · exact k.sub _ _ h
theorem lent_up {bs : List Addr} (k : Wok G w S H) : Same w.I (lent w H bs) := fun b o h => by
  unfold lent
  split
  · exact k.sub _ _ h
  · exact h
def Lent (w : Wd) (H : Hp) (bs : List Addr) : Prop := ∀ b ∈ bs, b ∈ w.as ∧ w.I b = none ∧ ∃ vs, H b = some (.lst vs)
theorem borrow_ok {d e : D} {ns : List Nat} {v : V} (k : Wok G w S H) (r : RepD G w v d) (h : borrow S d = some (e, ns)) : ∃ bs, Lent w H bs ∧ (ns = [] → bs = []) ∧ ∀ bs2 as2, (∀ b ∈ bs, b ∈ bs2) → RepD (Glob.one G) ⟨lent w H bs2, as2, w.ts⟩ v e := by
  unfold borrow at h
  split at h
  · rename_i p
    split at h
    · rename_i f
      cases h
      exact ⟨[], fun b m => (by cases m), fun _ => rfl, fun bs2 as2 _ => Rep.toOne (lent_up k) f r⟩
    · cases h
  · rename_i n
    obtain ⟨a, rfl, ha⟩ := rep_cell.mp r
    split at h
    · rename_i ps hs
      split at h
      · rename_i f
        cases h
        obtain ⟨hi, vs, hv, rs⟩ := k.cells n _ a hs ha
        refine ⟨[a], fun b m => ?_, fun z => (by cases z), fun bs2 as2 hb => ?_⟩
        · rw [List.mem_singleton.mp m]
          exact ⟨List.mem_of_getElem? ha, hi, vs, hv⟩
        · refine rep_lst.mpr ⟨a, vs, rfl, ?_, Reps.toOne (lent_up k) f rs⟩
          show lent w H bs2 a = _
          unfold lent
          rw [if_pos (hb a (List.mem_singleton.mpr rfl))]
          exact hv
      · cases h
    · cases h
  · cases h
theorem borrows_ok (k : Wok G w S H) : ∀ {ds es : List D} {ns : List Nat} {vs : List V}, RepDs G w vs ds → borrows S ds = some (es, ns) → ∃ bs, Lent w H bs ∧ (ns = [] → bs = []) ∧ ∀ bs2 as2, (∀ b ∈ bs, b ∈ bs2) → RepDs (Glob.one G) ⟨lent w H bs2, as2, w.ts⟩ vs es
  | [], es, ns, vs, r, h => by
    cases vs with
    | nil => cases h; exact ⟨[], fun b m => (by cases m), fun _ => rfl, fun _ _ _ => trivial⟩
    | cons => exact r.elim
  | d :: ds, es, ns, vs, r, h => by
    cases vs with
    | nil => exact r.elim
    | cons v vs =>
      unfold borrows at h
      split at h
      · rename_i e n1 es' n2 e1 e2
        cases h
        obtain ⟨b1, l1, z1, q1⟩ := borrow_ok k r.1 e1
        obtain ⟨b2, l2, z2, q2⟩ := borrows_ok k r.2 e2
        refine ⟨b1 ++ b2, fun b m => (List.mem_append.mp m).elim (l1 b) (l2 b), fun z => ?_, fun bs2 as2 hb => ⟨q1 bs2 as2 fun b m => hb b (List.mem_append_left _ m), q2 bs2 as2 fun b m => hb b (List.mem_append_right _ m)⟩⟩
        obtain ⟨y1, y2⟩ := List.append_eq_nil_iff.mp z
        rw [z1 y1, z2 y2]; rfl
      · cases h
theorem borrows_len : ∀ {ds es : List D} {ns : List Nat}, borrows S ds = some (es, ns) → es.length = ds.length
  | [], es, ns, h => by cases h; rfl
  | d :: ds, es, ns, h => by
    unfold borrows at h
    split at h
    · rename_i e2
      cases h
      simp [borrows_len e2]
    · cases h
section
variable {as1 bs : List Addr} {w' : Wd} {H' : Hp} {S' : Store}
theorem lent_ext (k : Wok G w S H) (l : Lent w H bs) (ha : ∀ a ∈ as1, a ∈ w.as) (x : Ext ⟨lent w H bs, as1, w.ts⟩ H w' H') : Ext w H ⟨lessI w'.I bs, w.as, w.ts⟩ H' := by
  refine ⟨fun b o h => ?_, ⟨[], by simp⟩, rfl, fun b o h n m => x.frame b o h (fun z => n (ha b z)) m, fun b o h n => ⟨n, fun z => ?_⟩, x.there⟩
  · show lessI w'.I bs b = some o
    have nb : b ∉ bs := fun m => by
      have := (l b m).2.1
      rw [h] at this; cases this
    unfold lessI
    rw [if_neg nb]
    exact x.I _ _ (lent_up k _ _ h)
  · have nb : b ∉ bs := fun m => n (l b m).1
    show lessI w'.I bs b = none
    unfold lessI
    rw [if_neg nb]
    refine (x.fresh b o h fun z => n (ha b z)).2 ?_
    show lent w H bs b = none
    unfold lent
    rw [if_neg nb]
    exact z
theorem lent_lists (l : Lent w H bs) (x : Ext ⟨lent w H bs, as1, w.ts⟩ H w' H') : ListsAt w'.I bs := fun b m => by
  obtain ⟨_, _, vs, e⟩ := l b m
  refine ⟨vs, x.I _ _ ?_⟩
  show lent w H bs b = _
  unfold lent
  rw [if_pos m]
  exact e
theorem lent_cell (k : Wok G w S H) (l : Lent w H bs) (ha : ∀ a ∈ as1, a ∈ w.as) (x : Ext ⟨lent w H bs, as1, w.ts⟩ H w' H') {j : Nat} {d : Cell} {b : Addr} (h1 : S[j]? = some d) (h2 : w.as[j]? = some b) (nb : b ∉ as1) : CellOk G ⟨lessI w'.I bs, w.as, w.ts⟩ H' b d := by
  have q := k.cells j d b h1 h2
  have none' : w.I b = none → lessI w'.I bs b = none := fun z => by
    unfold lessI
    split
    · rfl
    · rename_i nm
      obtain ⟨o, ho⟩ := q.there
      refine (x.fresh b o ho nb).2 ?_
      show lent w H bs b = none
      unfold lent
      rw [if_neg nm]
      exact z
  have up := (lent_ext k l ha x).I
  cases d with
  | lst ds =>
    obtain ⟨z, vs, e, r⟩ := q
    exact ⟨none' z, vs, x.frame _ _ e nb (k.notTs e (by intro _ y; cases y)), Reps.mono (I := w) (I' := ⟨lessI w'.I bs, w.as, w.ts⟩) up ⟨[], by simp⟩ r⟩
  | dK ks ds =>
    obtain ⟨z, vs, e, q, r⟩ := q
    exact ⟨none' z, vs, x.frame _ _ e nb (k.notTs e (by intro _ y; cases y)), q, Reps.mono (I := w) (I' := ⟨lessI w'.I bs, w.as, w.ts⟩) up ⟨[], by simp⟩ r⟩
  | obj c ns ds =>
    obtain ⟨z, y, C, dx, fs, g, e, q, r⟩ := q
    exact ⟨none' z, y, C, dx, fs, g, x.frame _ _ e nb (k.notTs e (by intro _ y; cases y)), q, Reps.mono (I := w) (I' := ⟨lessI w'.I bs, w.as, w.ts⟩) up ⟨[], by simp⟩ r⟩
  | dead =>
    obtain ⟨o, e⟩ := q
    exact x.there _ _ e
theorem lent_tabs (k : Wok G w S H) (l : Lent w H bs) (ha : ∀ a ∈ as1, a ∈ w.as) (x : Ext ⟨lent w H bs, as1, w.ts⟩ H w' H') (k' : Wok (Glob.one G) w' S' H') : TabsOk G ⟨lessI w'.I bs, w.as, w.ts⟩ H' := by
  refine ⟨k.tb.ts, fun p hp => ?_, k.tb.un.1.trans (lent_ext k l ha x).I, k.tb.un.2⟩
  obtain ⟨⟨ps, e1, e2, e3⟩, e4, _⟩ := k'.tb.at_ p hp
  refine ⟨⟨ps, e1, e2, fun pos cv hc => ?_⟩, ?_, (k.tb.at_ p hp).2.2⟩
  · obtain ⟨c, f1, f2⟩ := e3 pos cv hc
    exact ⟨c, f1, less_keep (lent_lists l x) f2 (by intro _ z; cases z)⟩
  · show lessI w'.I bs p.1 = none
    unfold lessI
    split
    · rfl
    · exact e4
theorem lent_tabs0 (k : Wok G w S H) (l : Lent w H bs) (ha : ∀ a ∈ as1, a ∈ w.as) : TabsOk (Glob.one G) ⟨lent w H bs, as1, w.ts⟩ H := by
  refine ⟨k.tb.ts, fun p hp => ?_, fun b o z => (nomatch z), ⟨as1, rfl⟩⟩
  obtain ⟨⟨ps, e1, e2, e3⟩, e4, e5⟩ := k.tb.at_ p hp
  refine ⟨⟨ps, e1, e2, fun pos cv hc => ?_⟩, ?_, fun z => e5 (ha _ z)⟩
  · obtain ⟨c, f1, f2⟩ := e3 pos cv hc
    exact ⟨c, f1, lent_up k _ _ f2⟩
  · show lent w H bs p.1 = none
    unfold lent
    rw [if_neg fun m => e5 (l _ m).1]
    exact e4
theorem lent_wok0 (k : Wok G w S H) (l : Lent w H bs) : Wok (Glob.one G) ⟨lent w H bs, [], w.ts⟩ [] H :=
  ⟨lent_sub k, rfl, List.nodup_nil, lent_tabs0 k l (fun _ z => (by cases z)), fun n c a h => by simp at h⟩
theorem CellOk.toOne {I I' : Wd} {H : Hp} {a : Addr} {c : Cell} (s : Same I.I I'.I) (f : freeC c = true) (hn : I'.I a = none) (h : CellOk G I H a c) : CellOk (Glob.one G) I' H a c := by
  cases c with
  | lst => obtain ⟨z, vs, e, r⟩ := h; exact ⟨hn, vs, e, Reps.toOne s f r⟩
  | dK => obtain ⟨z, vs, e, q, r⟩ := h; exact ⟨hn, vs, e, q, Reps.toOne s f r⟩
  | obj => obtain ⟨z, x, C, dx, fs, g, e, q, r⟩ := h; exact ⟨hn, x, C, dx, fs, g, e, q, Reps.toOne s f r⟩
  | dead => simp [freeC] at f
theorem CellOk.fromOne {I : Wd} {bs as' ts' : List Addr} {H : Hp} {a : Addr} {c : Cell} (hl : ListsAt I.I bs) (f : bs = [] ∨ bareC c = true) (lv : liveC c = true) (h : CellOk (Glob.one G) I H a c) : CellOk G ⟨lessI I.I bs, as', ts'⟩ H a c := by
  have none' : I.I a = none → lessI I.I bs a = none := fun z => by
    unfold lessI
    split
    · rfl
    · exact z
  cases c with
  | lst => obtain ⟨z, vs, e, r⟩ := h; exact ⟨none' z, vs, e, Reps.fromOne hl f r⟩
  | dK => obtain ⟨z, vs, e, q, r⟩ := h; exact ⟨none' z, vs, e, q, Reps.fromOne hl f r⟩
  | obj => obtain ⟨z, x, C, dx, fs, g, e, q, r⟩ := h; exact ⟨none' z, x, C, dx, fs, g, e, q, Reps.fromOne hl f r⟩
  | dead => simp [liveC] at lv
theorem lent_wok1 {n : Nat} {c : Cell} {a : Addr} (k : Wok G w S H) (l : Lent w H bs) (hs : S[n]? = some c) (ha : w.as[n]? = some a) (f : freeC c = true) (nb : a ∉ bs) : Wok (Glob.one G) ⟨lent w H bs, [a], w.ts⟩ [c] H := by
  refine ⟨lent_sub k, rfl, by simp, lent_tabs0 k l (fun b z => by rw [List.mem_singleton.mp z]; exact List.mem_of_getElem? ha), fun j d b h1 h2 => ?_⟩
  have hj : j = 0 := by
    have := (List.getElem?_eq_some_iff.mp h1).1
    simp at this; exact this
  subst hj
  have h1 : some c = some d := by simpa using h1
  have h2 : some a = some b := by simpa using h2
  cases h1; cases h2
  have q := k.cells n _ _ hs ha
  refine CellOk.toOne (lent_up k) f ?_ q
  show lent w H bs _ = none
  unfold lent
  rw [if_neg nb]
  cases c with
  | lst => exact q.1
  | dK => exact q.1
  | obj => exact q.1
  | dead => simp [freeC] at f
theorem RepX.fromOne {I : Wd} {bs as' ts' : List Addr} {cls : Value} {dd : Option Addr} {y : Exc} (hl : ListsAt I.I bs) (f : bs = [] ∨ barePs y.vs = true) (h : RepX (Glob.one G) I cls dd y) : RepX G ⟨lessI I.I bs, as', ts'⟩ cls dd y := by
  obtain ⟨h1, h2, h3⟩ := h
  refine ⟨h1, h2, ?_⟩
  rcases h3 with h3 | ⟨d, fs, e1, e2, e3, r⟩
  · exact .inl h3
  · exact .inr ⟨d, fs, e1, less_keep hl e2 (by intro _ z; cases z), e3, Reps.fromOne hl f r⟩
theorem back_wok0 (k : Wok G w S H) (l : Lent w H bs) (x : Ext ⟨lent w H bs, [], w.ts⟩ H w' H') (k' : Wok (Glob.one G) w' S' H') : Wok G ⟨lessI w'.I bs, w.as, w.ts⟩ S H' :=
  ⟨fun b o h => by
    have h : lessI w'.I bs b = some o := h
    unfold lessI at h
    split at h
    · cases h
    · exact k'.sub _ _ h, k.len, k.nd, lent_tabs k l (fun _ z => (by cases z)) x k', fun j d b h1 h2 => lent_cell k l (fun _ z => (by cases z)) x h1 h2 (by simp)⟩
theorem back_wok1 {n : Nat} {c c' : Cell} {T : Store} {a : Addr} (k : Wok G w S H) (l : Lent w H bs) (hs : S[n]? = some c) (ha : w.as[n]? = some a) (x : Ext ⟨lent w H bs, [a], w.ts⟩ H w' H') (k' : Wok (Glob.one G) w' (c' :: T) H') (lv : liveC c' = true) (f : bs = [] ∨ bareC c' = true) : Wok G ⟨lessI w'.I bs, w.as, w.ts⟩ (S.set n c') H' := by
  have hm : ∀ b ∈ [a], b ∈ w.as := fun b z => by rw [List.mem_singleton.mp z]; exact List.mem_of_getElem? ha
  refine ⟨fun b o h => ?_, by simp [k.len], k.nd, lent_tabs k l hm x k', fun j d b h1 h2 => ?_⟩
  · have h : lessI w'.I bs b = some o := h
    unfold lessI at h
    split at h
    · cases h
    · exact k'.sub _ _ h
  · have h2 : w.as[j]? = some b := h2
    by_cases e : n = j
    · subst e
      rw [List.getElem?_set_self (List.getElem?_eq_some_iff.mp hs).1] at h1
      cases h1
      rw [ha] at h2; cases h2
      obtain ⟨t, ht⟩ := x.as
      exact CellOk.fromOne (lent_lists l x) f lv (k'.cells 0 _ _ rfl (by rw [ht]; rfl))
    · rw [List.getElem?_set_ne e] at h1
      refine lent_cell k l hm x h1 h2 fun z => e (nodup_at k.nd ha ?_)
      rw [← List.mem_singleton.mp z]; exact h2
end
theorem lift0_in {m : FD} {ds : List D} {vs : List V} {Q : VK} {E : XK} (k : Wok G w S H) (r : RepDs G w vs ds) (q : out (lift0 m ds S) (Qv G w H Q) (Qx G w H E)) : spV (Glob.one G) (spF m) vs H Q E := by
  unfold lift0 at q
  split at q
  · rename_i es ns hb
    obtain ⟨bs, l, z, hr⟩ := borrows_ok k r hb
    refine ⟨⟨lent w H bs, [], w.ts⟩, [], es, lent_wok0 k l, hr bs [] (fun _ h => h), ?_⟩
    have em : ns.isEmpty = true → bs = [] := fun e => z (List.isEmpty_iff.mp e)
    show out (m es []) _ _
    cases ho : m es [] with
    | bad => rw [ho] at q; exact q.elim
    | ex y S1 =>
      rw [ho] at q
      unfold back0 at q
      dsimp only at q
      split at q
      · rename_i c
        intro cls dd w' H' x k' rx
        exact q cls dd _ H' (lent_ext k l (fun _ z => (by cases z)) x) (back_wok0 k l x k') (RepX.fromOne (lent_lists l x) (c.imp em id) rx)
      · exact q.elim
    | ok d S1 =>
      rw [ho] at q
      unfold back0 at q
      split at q
      · rename_i v S2 e
        cases e
        split at q
        · rename_i c
          intro u w' H' x k' rv
          exact q u _ H' (lent_ext k l (fun _ z => (by cases z)) x) (back_wok0 k l x k') (Rep.fromOne (lent_lists l x) (c.imp em id) rv)
        · exact q.elim
      · rename_i ps e
        cases e
        split at q
        · rename_i c
          intro u w' H' x k' rv
          obtain ⟨p, rfl, hp⟩ := rep_cell.mp rv
          have hw := back_wok0 k l x k'
          obtain ⟨nI, us, hv, rs⟩ := k'.cells 0 _ _ rfl hp
          have pn : p ∉ w.as := fun mm => by
            obtain ⟨o, hh⟩ := k.cellThere mm
            exact (x.fresh p o hh (by simp)).1 (List.mem_of_getElem? hp)
          have pH : H p = none := by
            cases hh : H p with
            | none => rfl
            | some o => exact absurd (List.mem_of_getElem? hp) (x.fresh p o hh (by simp)).1
          have nl : lessI w'.I bs p = none := by
            unfold lessI
            split
            · rfl
            · exact nI
          refine q (.ref p) _ H' ((lent_ext k l (fun _ z => (by cases z)) x).takeC pH) (hw.takeC hv nl pn (Reps.fromOne (lent_lists l x) (c.imp em id) rs)) ⟨p, rfl, ?_⟩
          show (w.as ++ [p])[S.length]? = some p
          rw [← k.len, List.getElem?_append_right (Nat.le_refl _)]
          simp
        · exact q.elim
      · rename_i e
        cases e
      · exact q.elim
  · exact q.elim
theorem lift1_in {m : FD} {n : Nat} {c : Cell} {ds : List D} {v : V} {vs : List V} {Q : VK} {E : XK} (k : Wok G w S H) (hs : S[n]? = some c) (hc : ∀ xs, c ≠ .lst xs) (r0 : RepD G w v (.cell n)) (r : RepDs G w vs ds) (q : out (lift1 m n ds S c) (Qv G w H Q) (Qx G w H E)) : spV (Glob.one G) (spF m) (v :: vs) H Q E := by
  obtain ⟨a, rfl, ha⟩ := rep_cell.mp r0
  unfold lift1 at q
  split at q
  · rename_i es ns hb
    split at q
    · rename_i hf
      obtain ⟨bs, l, z, hr⟩ := borrows_ok k r hb
      have hm : ∀ b ∈ [a], b ∈ w.as := fun b z => by rw [List.mem_singleton.mp z]; exact List.mem_of_getElem? ha
      have nb : a ∉ bs := fun mm => by
        obtain ⟨_, _, us, e⟩ := l a mm
        have q := k.cells n c a hs ha
        cases c with
        | lst xs => exact hc xs rfl
        | dK => obtain ⟨_, _, e2, _⟩ := q; rw [e] at e2; cases e2
        | obj => obtain ⟨_, _, _, _, _, _, e2, _⟩ := q; rw [e] at e2; cases e2
        | dead => simp [freeC] at hf
      refine ⟨⟨lent w H bs, [a], w.ts⟩, [c], .cell 0 :: es, lent_wok1 k l hs ha hf nb, ⟨⟨a, rfl, rfl⟩, hr bs [a] (fun _ h => h)⟩, ?_⟩
      have em : ns.isEmpty = true → bs = [] := fun e => z (List.isEmpty_iff.mp e)
      show out (m (.cell 0 :: es) [c]) _ _
      cases ho : m (.cell 0 :: es) [c] with
      | bad => rw [ho] at q; exact q.elim
      | ex y S1 =>
        rw [ho] at q
        unfold back1 at q
        split at q
        · rename_i e; cases e
        · rename_i e; cases e
        · rename_i y' c' T e
          cases e
          split at q
          · rename_i cc
            intro cls dd w' H' x k' rx
            exact q cls dd _ H' (lent_ext k l hm x) (back_wok1 k l hs ha x k' cc.1 (cc.2.imp em And.right)) (RepX.fromOne (lent_lists l x) (cc.2.imp em And.left) rx)
          · exact q.elim
        · exact q.elim
      | ok d S1 =>
        rw [ho] at q
        unfold back1 at q
        split at q
        · rename_i v' c' T e
          cases e
          split at q
          · rename_i cc
            intro u w' H' x k' rv
            exact q u _ H' (lent_ext k l hm x) (back_wok1 k l hs ha x k' cc.1 (cc.2.imp em And.right)) (Rep.fromOne (lent_lists l x) (cc.2.imp em And.left) rv)
          · exact q.elim
        · rename_i c' ps e
          cases e
          split at q
          · rename_i cc
            intro u w' H' x k' rv
            obtain ⟨p, rfl, hp⟩ := rep_cell.mp rv
            have hw := back_wok1 k l hs ha x k' cc.1 (cc.2.imp em And.right)
            obtain ⟨nI, us, hv, rs⟩ := k'.cells 1 _ _ rfl hp
            have pa : p ∉ [a] := fun mm => by
              rw [List.mem_singleton] at mm
              subst mm
              obtain ⟨t, ht⟩ := x.as
              have h0 : w'.as[0]? = some p := by rw [ht]; rfl
              exact absurd (nodup_at k'.nd h0 hp) (by decide)
            have pn : p ∉ w.as := fun mm => by
              obtain ⟨o, hh⟩ := k.cellThere mm
              exact (x.fresh p o hh pa).1 (List.mem_of_getElem? hp)
            have pH : H p = none := by
              cases hh : H p with
              | none => rfl
              | some o => exact absurd (List.mem_of_getElem? hp) (x.fresh p o hh pa).1
            have nl : lessI w'.I bs p = none := by
              unfold lessI
              split
              · rfl
              · exact nI
            refine q (.ref p) _ H' ((lent_ext k l hm x).takeC pH) (hw.takeC hv nl pn (Reps.fromOne (lent_lists l x) (cc.2.imp em And.left) rs)) ⟨p, rfl, ?_⟩
            show (w.as ++ [p])[S.length]? = some p
            rw [← k.len, List.getElem?_append_right (Nat.le_refl _)]
            simp
          · exact q.elim
        · rename_i e; cases e
        · exact q.elim
    · exact q.elim
  · exact q.elim
theorem liftM_in {m : FD} {ds : List D} {vs : List V} {Q : VK} {E : XK} (k : Wok G w S H) (r : RepDs G w vs ds) (q : out (liftM m ds S) (Qv G w H Q) (Qx G w H E)) : spV (Glob.one G) (spF m) vs H Q E := by
  unfold liftM at q
  split at q
  · rename_i n rest
    cases vs with
    | nil => exact r.elim
    | cons v vs =>
      split at q
      · rename_i hs
        exact lift1_in k hs (by intro _ z; cases z) r.1 r.2 q
      · rename_i hs
        exact lift1_in k hs (by intro _ z; cases z) r.1 r.2 q
      · exact lift0_in k r q
  · exact lift0_in k r q
end
theorem out_nb {o : O D} {Q : DK} {E : EK} (h : out o Q E) : o ≠ .bad := fun z => by rw [z] at h; exact h
theorem nb_out {o : O D} (h : o ≠ .bad) : out o (fun _ _ => True) fun _ _ => True := by
  cases o with
  | bad => exact h rfl
  | ok => trivial
  | ex => trivial
theorem fn_lift {G : Glob} {P : Program} {w : World} {mg : Str → Option Value} {base : Heap} {k : Nat} {f : Addr} {fd : FuncData} {ps : List Str} {m : FD} (F : FnG (Glob.one G) P w mg base k f fd ps (spF m)) : FnG G P w mg base k f fd ps (spF (liftM m)) := by
  have len0 : ∀ (ds : List D) (S : Store), lift0 m ds S ≠ .bad → ds.length = ps.length := fun ds S h => by
    unfold lift0 at h
    split at h
    · rename_i es ns hb
      rw [← borrows_len hb]
      have : m es [] ≠ .bad := fun z => by rw [z] at h; exact h rfl
      exact F.len es [] _ _ (nb_out this)
    · exact absurd rfl h
  have len1 : ∀ (n : Nat) (ds : List D) (S : Store) (c : Cell), lift1 m n ds S c ≠ .bad → (D.cell n :: ds).length = ps.length := fun n ds S c h => by
    unfold lift1 at h
    split at h
    · rename_i es ns hb
      split at h
      · have : m (.cell 0 :: es) [c] ≠ .bad := fun z => by rw [z] at h; exact h rfl
        rw [← F.len (.cell 0 :: es) [c] _ _ (nb_out this)]
        simp [borrows_len hb]
      · exact absurd rfl h
    · exact absurd rfl h
  refine ⟨spF_mon _, fun ds S Q E h => ?_, fun A outer s H args us vs Q E hr hg e0 hb r hsp => ?_⟩
  · have h := out_nb h
    unfold liftM at h
    split at h
    · split at h
      · exact len1 _ _ _ _ h
      · exact len1 _ _ _ _ h
      · exact len0 _ _ h
    · exact len0 _ _ h
  · obtain ⟨wd, S, ds, ok, rd, q⟩ := hsp
    exact F.run A outer s H args us vs Q E hr hg e0 hb r (liftM_in ok rd q)
end RB.F
namespace RB.F
open PySem PySem.Spec PyProof.Rows L2 RB
section
variable {prog : Program} {w : World} {A : Around} {R : Result → Shared → Prop} {s : Shared} {K : PySem.W.Frag} {x C g dx : Addr} {pos : List Value} {kw : List (Str × Value)}
variable {E : Value → Shared → Prop}
end
abbrev ITab := List (String × FD)
def callI2 (mf : FD) (d : D) (ds : List D) (S2 : Store) : O D := mf (d :: ds) S2
def callI1 (tab : ITab) (fa : FA) (r : Rho) (d : D) (S1 : Store) : O D := match d with
  | .p (.obj c _ _) => (match tab.lookup c with
    | some mf => (fa r S1).bind (callI2 mf d)
    | none => .bad)
  | _ => .bad
def wCallI (tab : ITab) (fo : FE) (fa : FA) (r : Rho) (S : Store) : O D := (fo r S).bind (callI1 tab fa r)
structure SpI (G : Glob) (X : Cx) (n : Nat) (m : Str) (c : String) (mf : FD) : Prop where
  isE : G.isE c = false
  run : ∃ (C g : Addr) (fd : FuncData) (ps : List Str) (k : Nat), G.cls c = some C ∧ Meth X.K C m g ∧ PySem.W.fnIn X.K g = true ∧ FnG G X.prog X.w X.mg X.base k g fd ps (spF mf) ∧ k ≤ n ∧ Binds X.K fd ps []
section
variable {G : Glob} {X : Cx} {W : WX} {n : Nat} {fe e : Expr} {es : List Expr} {pos : Pos} {fo : FE} {fa : FA}
def negI (tab : ITab) (d : D) (S1 : Store) : O D := match d with
  | .p (.obj c _ _) => (match tab.lookup c with
    | some mf => mf [d] S1
    | none => .bad)
  | _ => .bad
end
theorem wCallI_e {tab : ITab} {fo : FE} {fa : FA} {r : Rho} {S : Store} : wCallI tab fo fa r S = (fo r S).bind (callI1 tab fa r) := (rfl)
end RB.F
open PySem PySem.W PySem.Calls PyProof.Rows
namespace RB.F
noncomputable def topE (r : OpenRow) (M : Nat) (w : World) (os : OsState) : Option SharedT := HandSHeadRun.endF (HandSHeadRun.stepQ (HandSHeadRun.denQ HandSHeadRun.tabQ) r.prog w) M r.prog w os
def KT (n : Nat) (h : HdU) (s : SharedT) : PySem.W.Frag := He.frG (HandSHeadRun.getT s) (asG n (csG n h.lt (HandSHeadRun.getT s)))
def obK (n : Nat) (h : HdU) (s : SharedT) : Bool × List FnS × List (Option (List (Option (Str × Int)))) :=
  (fun K : PySem.W.Frag => ((K.lookup sysModules).isSome && (tabsB (HandSHeadRun.getT s) K h.lt (csG n h.lt (HandSHeadRun.getT s)) && h.sd.all (supB h.file K)), h.sd.map (fnS K), dObs h.ts K)) (KT n h s)
noncomputable def lk0 (r : OpenRow) (q : Program) (loose : List PySem.Str) (w : World) (s : SharedT) := (HandSHeadRun.looksF r.prog (boot_heap w.params) s.abs, HandSHeadRun.seenQ q loose (importedModules r.prog.main.body) (fun s => xlAt q [] s && recOk r.toRowW.records s) s.abs)
def lk0V (q : Program) (loose : List PySem.Str) := (true, openGood q loose)
def ob1 (n : Nat) (h : HdU) (s : SharedT) : Bool := h.fa.all fun f => f.ok (KT n h s)
def ob4 (n : Nat) (h : HdU) (s : SharedT) : Bool := (fun K : PySem.W.Frag => h.fn.all fun d => d.ok K) (KT n h s)
def ob5 (n : Nat) (h : HdU) (s : SharedT) : List He.FnW := (fun K : PySem.W.Frag => h.fn.map fun d => He.fnW K d.at_) (KT n h s)
def ob2 (n : Nat) (h : HdU) (s : SharedT) : Bool := h.ck (KT n h s)
def obKV (h : HdU) (w : World) : Bool × List FnS × List (Option (List (Option (Str × Int)))) := (true, h.sd.map valS, dVal h.ts w)
def Run0 (r : OpenRow) (q : Program) (M : Nat) (loose : List PySem.Str) (w : World) : Prop := ∀ os, (topE r M w os).map (lk0 r q loose w) = some (lk0V q loose)
def Run1 (r : OpenRow) (n : Nat) (h : HdU) (M : Nat) (w : World) : Prop := ∀ os, (topE r M w os).map (ob1 n h) = some true
def Run4 (r : OpenRow) (n : Nat) (h : HdU) (M : Nat) (w : World) : Prop := ∀ os, (topE r M w os).map (ob4 n h) = some true
def Run5 (r : OpenRow) (n : Nat) (h : HdU) (M : Nat) (w : World) : Prop := ∀ os, (topE r M w os).map (ob5 n h) = some (h.fn.map He.DefD.val)
def Run2 (r : OpenRow) (n : Nat) (h : HdU) (M : Nat) (w : World) : Prop := ∀ os, (topE r M w os).map (ob2 n h) = some true
def Run3 (r : OpenRow) (n : Nat) (h : HdU) (M : Nat) (w : World) : Prop := ∀ os, (topE r M w os).map (obK n h) = some (obKV h w)
def RunA (r : OpenRow) (q : Program) (n : Nat) (h : HdU) (M : Nat) (loose : List PySem.Str) (w : World) : Prop := HandSHeadRun.RunEq r q (hookU n h) (fun s => obsUG n h (HandSHeadRun.getT s)) M loose w
def chunk {α : Type} (l : List α) (k i : Nat) : List α := (l.drop (k * i)).take k
theorem mem_chunk {α : Type} {l : List α} {k m : Nat} (hl : l.length ≤ k * m) {x : α} (hx : x ∈ l) : ∃ i, i < m ∧ x ∈ chunk l k i := by
  obtain ⟨j, hj, e⟩ := List.getElem_of_mem hx
  have hk : 0 < k := by
    rcases Nat.eq_zero_or_pos k with z | z
    · subst z
      rw [Nat.zero_mul] at hl
      omega
    · exact z
  refine ⟨j / k, ?_, ?_⟩
  · rw [Nat.div_lt_iff_lt_mul hk, Nat.mul_comm]
    omega
  · have h1 := Nat.div_add_mod j k
    have h2 := Nat.mod_lt j hk
    unfold chunk
    have : ((l.drop (k * (j / k))).take k)[j % k]? = some x := by
      rw [List.getElem?_take, if_pos h2, List.getElem?_drop, h1, List.getElem?_eq_getElem hj, e]
    exact List.mem_of_getElem? this
theorem all_chunk {α : Type} {l : List α} {p : α → Bool} {k m : Nat} (hl : l.length ≤ k * m) (h : ∀ i, i < m → (chunk l k i).all p = true) : l.all p = true :=
  List.all_eq_true.mpr fun x hx => by
    obtain ⟨i, hi, q⟩ := mem_chunk hl hx
    exact List.all_eq_true.mp (h i hi) x q
theorem map_chunk {α β : Type} {l : List α} {f g : α → β} {k m : Nat} (hl : l.length ≤ k * m) (h : ∀ i, i < m → (chunk l k i).map f = (chunk l k i).map g) : l.map f = l.map g :=
  List.map_congr_left fun x hx => by
    obtain ⟨i, hi, q⟩ := mem_chunk hl hx
    exact List.map_inj_left.mp (h i hi) x q
def ob4c (n : Nat) (h : HdU) (k i : Nat) (s : SharedT) : Bool := (fun K : PySem.W.Frag => (chunk h.fn k i).all fun d => d.ok K) (KT n h s)
def ob5c (n : Nat) (h : HdU) (k i : Nat) (s : SharedT) : List He.FnW := (fun K : PySem.W.Frag => (chunk h.fn k i).map fun d => He.fnW K d.at_) (KT n h s)
def Run4c (r : OpenRow) (n : Nat) (h : HdU) (M k i : Nat) (w : World) : Prop := ∀ os, (topE r M w os).map (ob4c n h k i) = some true
def Run5c (r : OpenRow) (n : Nat) (h : HdU) (M k i : Nat) (w : World) : Prop := ∀ os, (topE r M w os).map (ob5c n h k i) = some ((chunk h.fn k i).map He.DefD.val)
section
variable {r : OpenRow} {n : Nat} {h : HdU} {M k m : Nat} {w : World}
theorem run4_of (hm : 0 < m) (hl : h.fn.length ≤ k * m) (a : ∀ i, i < m → Run4c r n h M k i w) : Run4 r n h M w := by
  intro os
  cases e : topE r M w os with
  | none => have := a 0 hm os; rw [e] at this; cases this
  | some s => exact congrArg some (all_chunk hl fun i hi => by have := a i hi os; rw [e] at this; exact Option.some.inj this)
theorem run5_of (hm : 0 < m) (hl : h.fn.length ≤ k * m) (a : ∀ i, i < m → Run5c r n h M k i w) : Run5 r n h M w := by
  intro os
  cases e : topE r M w os with
  | none => have := a 0 hm os; rw [e] at this; cases this
  | some s => exact congrArg some (map_chunk hl fun i hi => by have := a i hi os; rw [e] at this; exact Option.some.inj this)
end
theorem run_split {r : OpenRow} {q : Program} {n : Nat} {h : HdU} {M : Nat} {loose : List PySem.Str} {w : World}
    (h0 : Run0 r q M loose w) (h1 : Run1 r n h M w) (h2 : Run2 r n h M w) (h3 : Run3 r n h M w) (h4 : Run4 r n h M w) (h5 : Run5 r n h M w) : RunA r q n h M loose w := by
  intro os
  have a0 := h0 os
  have a1 := h1 os
  have a2 := h2 os
  have a3 := h3 os
  have a4 := h4 os
  have a5 := h5 os
  show (topE r M w os).map _ = _
  cases e : topE r M w os with
  | none => rw [e] at a0; cases a0
  | some s =>
    rw [e] at a0 a1 a2 a3 a4 a5
    have b0 := Option.some.inj a0
    have b1 : He.obsD h.fa h.fn (KT n h s) = He.valD h.fn := by
      have b1 : (h.fa.all fun f => f.ok (KT n h s)) = true := Option.some.inj a1
      have b4 : (h.fn.all fun d => d.ok (KT n h s)) = true := Option.some.inj a4
      have b5 : (h.fn.map fun d => He.fnW (KT n h s) d.at_) = h.fn.map He.DefD.val := Option.some.inj a5
      unfold He.obsD He.valD
      rw [b1, b4, b5]
      rfl
    have b2 := Option.some.inj a2
    have b3 := Option.some.inj a3
    have c1 := congrArg Prod.fst b3
    have c2 := congrArg Prod.snd b3
    refine congrArg some ?_
    have d1 := congrArg Prod.fst b0
    have d2 := congrArg Prod.snd b0
    obtain ⟨x1, x2⟩ := and2 c1
    obtain ⟨x2, x3⟩ := and2 x2
    refine Prod.ext d1 (Prod.ext d2 (Prod.ext (Prod.ext b1 ?_) c2))
    show (((KT n h s).lookup sysModules).isSome && (h.ck (KT n h s) && (tabsB (HandSHeadRun.getT s) (KT n h s) h.lt (csG n h.lt (HandSHeadRun.getT s)) && h.sd.all (supB h.file (KT n h s))))) = true
    have b2 : h.ck (KT n h s) = true := b2
    have x1 : ((KT n h s).lookup sysModules).isSome = true := x1
    have x2 : tabsB (HandSHeadRun.getT s) (KT n h s) h.lt (csG n h.lt (HandSHeadRun.getT s)) = true := x2
    have x3 : h.sd.all (supB h.file (KT n h s)) = true := x3
    rw [b2, x1, x2, x3]
    rfl
end RB.F
namespace RB.F
open PySem PySem.Spec PyProof.Rows L2 RB
section
variable {G : Glob} {X : Cx} {W : WX} {n k : Nat} {a b : Expr} {pos : Pos} {f1 f2 : FE}
def EqOneS (c : String) (mf : FD) : P → P → Prop
  | .obj c1 n1 v1, .obj c2 n2 v2 => c1 = c ∧ c2 = c ∧ ∀ S, mf [.p (.obj c1 n1 v1), .p (.obj c2 n2 v2)] S = .ok (.p (.bl true)) S
  | _, _ => False
def EqAllS (c : String) (mf : FD) : List P → List P → Prop
  | [], [] => True
  | x :: xs, y :: ys => EqOneS c mf x y ∧ EqAllS c mf xs ys
  | _, _ => False
theorem eqAllS_get {c : String} {mf : FD} : ∀ {xs ys : List P}, EqAllS c mf xs ys → xs.length = ys.length ∧ ∀ (i : Nat) x y, xs[i]? = some x → ys[i]? = some y → EqOneS c mf x y
  | [], [], _ => ⟨rfl, fun i x y h => by simp at h⟩
  | x :: xs, y :: ys, h => by
    obtain ⟨h1, h2⟩ := h
    obtain ⟨h3, h4⟩ := eqAllS_get h2
    refine ⟨by simp [h3], fun i a b e1 e2 => ?_⟩
    cases i with
    | zero => simp at e1 e2; subst e1; subst e2; exact h1
    | succ i => exact h4 i a b (by simpa using e1) (by simpa using e2)
  | [], _ :: _, h => h.elim
  | _ :: _, [], h => h.elim
open Classical in
noncomputable def dEqS (c : String) (mf : FD) (d1 d2 : D) (S : Store) : O D := match d1, d2 with
  | .p (.tup xs), .p (.tup ys) => if EqAllS c mf xs ys then .ok (.p (.bl true)) S else .bad
  | _, _ => .bad
theorem dEqS_ok {c : String} {mf : FD} {xs ys : List P} {S : Store} (h : EqAllS c mf xs ys) : dEqS c mf (.p (.tup xs)) (.p (.tup ys)) S = .ok (.p (.bl true)) S := if_pos h
theorem eqOne_runS {c : String} {mf : FD} (C : CxG G X W n) (hc : EqC G X n c mf) {pins : List (Addr × Obj)} {σ : L2.St} {H : Hp} {s : Shared} {v u : Value} {x y : V} {p q : P} {w : Wd} {S : Store} (I : Inv X pins σ H s) (rx : RelV x v) (ry : RelV y u) (ok : Wok G w S H) (r1 : Rep G w x p) (r2 : Rep G w y q) (e : EqOneS c mf p q) :
    wpAny (model X.prog X.w) X.A.in1 (eqBool v u) (fun r s' => r = true ∧ ∃ H' w', Inv X pins σ H' s' ∧ Wok G w' S H' ∧ RB.Ext w H w' H') X.xe s := by
  unfold EqOneS at e
  split at e
  · rename_i c1 n1 v1 c2 n2 v2
    obtain ⟨h1, h2, e⟩ := e
    subst h1; subst h2
    obtain ⟨C1, g, fd, ps, k, g1, g2, g3, g4, g5, g6, g7⟩ := hc.run
    obtain ⟨p1, C2, fs, e1, e2, e3, _, _⟩ := objOf_at ok (d := .p (.obj c2 n1 v1)) r1 rfl
    obtain ⟨p2, C3, gs, e4, e5, e6, _, _⟩ := objOf_at ok (d := .p (.obj c2 n2 v2)) r2 rfl
    subst e1; subst e4
    rw [g1] at e2 e5
    cases e2; cases e5
    cases rx; cases ry
    rcases e3 with ⟨_, dx, e3⟩ | ⟨e0, _⟩
    · rcases e6 with ⟨_, dy, e6⟩ | ⟨e0, _⟩
      · by_cases hab : p1 = p2
        · subst hab
          exact SeqAt.EqAt.same (A := X.A.in1) (s := s) (.ref p1) X.prog X.w X.xe _ ⟨rfl, H, w, I, ok, RB.Ext.refl _ _⟩
        · refine GQ.eqBool_refG hab ?_
          obtain ⟨mA, J, _⟩ := ins_get I.hok e3
          obtain ⟨mB, J', _⟩ := ins_get I.hok e6
          obtain ⟨od, J, _⟩ := J.look
          obtain ⟨od', J', _⟩ := J'.look
          obtain ⟨mm, hF⟩ := I.fr
          refine PySem.W.cmp_K (op := .Eq) (tb := .ref C1) ((C.rm.mono g4).in1).units0 hF I.ok.mod.kin J J'.type (by simp [PySem.W.notFirst]) g2.at_ g2.fn ?_
          refine wpAny_mono (run_two (Q := fun v H' => v = .bl true ∧ ∃ w', Wok G w' S H' ∧ RB.Ext w H w' H') (x := .ref p1) (y := .ref p2) (d1 := .p (.obj c2 n1 v1)) (d2 := .p (.obj c2 n2 v2)) (A := X.A.in1) C g3 ((C.rm.mono g4).in1) C.gd rfl g5 I rfl rfl ok r1 r2 ?_) (fun v s' ⟨_, H', I', r, e, z⟩ => ?_) fun _ _ z => z
          · rw [e]
            intro v w' H' x1 k1 rd
            exact ⟨rep_bl.mp rd, w', k1, x1⟩
          · subst e
            cases r
            obtain ⟨w', k1, x1⟩ := z
            exact ⟨true, rfl, rfl, H', w', I', k1, x1⟩
      · rw [hc.isE] at e0; cases e0
    · rw [hc.isE] at e0; cases e0
  · exact e.elim
theorem ox_eqS {c : String} {mf : FD} (C : CxG G X W n) (hc : EqC G X n c mf) : OpX G X W (compareOp .Eq) (dEqS c mf) := by
  intro pins s σ H x y v u Q I rx ry ⟨w, S, d1, d2, ok, r1, r2, q⟩
  unfold dEqS at q
  split at q
  · rename_i xs ys
    split at q
    · rename_i he
      obtain ⟨hl, hg⟩ := eqAllS_get he
      simp only [RepD, Rep] at r1 r2
      obtain ⟨p1, vs, rfl, t1, s1⟩ := r1
      obtain ⟨p2, us, rfl, t2, s2⟩ := r2
      cases rx
      cases ry
      have t1' := Same.tup ok.sub t1
      have t2' := Same.tup ok.sub t2
      rw [← C.hK] at t1' t2'
      obtain ⟨its, z1, e, m1⟩ := I.tuple t1'
      obtain ⟨its2, z2, e2, m2⟩ := I.tuple t2'
      have hsz : its.toArray.size = its2.toArray.size := by rw [List.size_toArray, List.size_toArray, ← z1.length, ← z2.length, s1.length, s2.length]; exact hl
      show wpAny (model X.prog X.w) X.A (richCompare .Eq (.ref p1) (.ref p2)) (EP X pins σ Q) X.xe s
      refine GQ.rc_tupG hsz C.rm.units0 (fun _ s' => ∃ H1 w1, Inv X pins σ H1 s' ∧ Wok G w1 S H1 ∧ RB.Ext w H w1 H1) e e2 (fun i h1 h2 s' lq => ?_) (fun s' lq => ?_) ⟨H, w, I, ok, RB.Ext.refl _ _⟩
      · obtain ⟨H1, w1, I1, k1', e1⟩ := lq
        have k1 : i < vs.length := by rw [z1.length]; simpa using h1
        have k2 : i < us.length := by rw [z2.length]; simpa using h2
        have j1 : i < its.length := by simpa using h1
        have j2 : i < its2.length := by simpa using h2
        obtain ⟨u1, hu1, ru1⟩ := z1.get (List.getElem?_eq_getElem k1)
        obtain ⟨u2, hu2, ru2⟩ := z2.get (List.getElem?_eq_getElem k2)
        rw [List.getElem?_eq_getElem j1] at hu1
        rw [List.getElem?_eq_getElem j2] at hu2
        obtain ⟨a1, ha1, ra1⟩ := s1.get' (List.getElem?_eq_getElem k1)
        obtain ⟨a2, ha2, ra2⟩ := s2.get' (List.getElem?_eq_getElem k2)
        have b1 : its.toArray[i] = u1 := by simpa using Option.some.inj hu1
        have b2 : its2.toArray[i] = u2 := by simpa using Option.some.inj hu2
        rw [b1, b2]
        have ra1 : Rep G w1 _ _ := RepD.mono (d := .p a1) e1 ra1
        have ra2 : Rep G w1 _ _ := RepD.mono (d := .p a2) e1 ra2
        refine wpAny_mono (eqOne_runS C hc I1 ru1 ru2 k1' ra1 ra2 (hg i _ _ ha1 ha2)) (fun r s2 ⟨hr, H2, w2, I2, k2', e3⟩ => ⟨hr, H2, w2, I2, k2', e1.trans e3⟩) fun _ _ z => z
      · obtain ⟨H1, w1, I1, k1, x1⟩ := lq
        exact ⟨.bl true, H1, I1, rfl, q _ w1 H1 x1 k1 (rep_bl.mpr rfl)⟩
    · exact q.elim
  · exact q.elim
end
end RB.F
namespace RB.F
open PySem PySem.Spec PyProof.Rows L2 RB
section
variable {G : Glob} {X : Cx} {W : WX} {n k : Nat} {a b c d : Expr} {pos : Pos} {f1 f2 f3 f4 : FE} {p q t : P2} {S : Store} {r : Rho}
def chJ3 (t : P2) (f4 : FE) (r : Rho) (d3 z : D) (S5 : Store) : O D := match z with
  | .p (.bl true) => (f4 r S5).bind (t d3)
  | .p (.bl false) => .ok (.p (.bl false)) S5
  | _ => .bad
def chJ2 (q t : P2) (f4 : FE) (r : Rho) (d2 d3 : D) (S4 : Store) : O D := (q d2 d3 S4).bind (chJ3 t f4 r d3)
def chJ1 (q t : P2) (f3 f4 : FE) (r : Rho) (d2 z : D) (S3 : Store) : O D := match z with
  | .p (.bl true) => (f3 r S3).bind (chJ2 q t f4 r d2)
  | .p (.bl false) => .ok (.p (.bl false)) S3
  | _ => .bad
def chJ0 (p q t : P2) (f3 f4 : FE) (r : Rho) (d1 d2 : D) (S2 : Store) : O D := (p d1 d2 S2).bind (chJ1 q t f3 f4 r d2)
def chJ (p q t : P2) (f2 f3 f4 : FE) (r : Rho) (d1 : D) (S1 : Store) : O D := (f2 r S1).bind (chJ0 p q t f3 f4 r d1)
def wChain3 (p q t : P2) (f1 f2 f3 f4 : FE) (r : Rho) (S : Store) : O D := (f1 r S).bind (chJ p q t f2 f3 f4 r)
theorem chJ3_t {d3 : D} : chJ3 t f4 r d3 (.p (.bl true)) S = (f4 r S).bind (t d3) := (rfl)
theorem chJ3_f {d3 : D} : chJ3 t f4 r d3 (.p (.bl false)) S = .ok (.p (.bl false)) S := (rfl)
theorem chJ1_t {d2 : D} : chJ1 q t f3 f4 r d2 (.p (.bl true)) S = (f3 r S).bind (chJ2 q t f4 r d2) := (rfl)
theorem chJ1_f {d2 : D} : chJ1 q t f3 f4 r d2 (.p (.bl false)) S = .ok (.p (.bl false)) S := (rfl)
end
end RB.F
namespace RB
open PySem PySem.Spec PyProof.Rows L2
section
variable {prog : Program} {w : World} {A : Around} {E : Value → Shared → Prop} {s : Shared}
end
section
variable {G : Glob} {X : Cx} {W : WX} {e e2 : Expr} {elts : List Expr} {kk : Nat} {p pos tpos : Pos} {ma : WA} {m : WE}
def wEnumA (ma : WA) : WA := fun r S Q E => ma r S (fun ds S1 => match ds with
  | [.p (.lst xs)] => Q (enumP xs) S1
  | [.p (.tup xs)] => Q (enumP xs) S1
  | _ => False) E
end
end RB
namespace RB.F
open PySem PySem.Spec PyProof.Rows L2 RB
section
variable {G : Glob} {X : Cx} {W : WX} {e : Expr} {p pos : Pos} {fa : FA} {r : Rho} {S : Store}
def enumAK (ds : List D) (S1 : Store) : O (List D) := match ds with
  | [.p (.lst xs)] => .ok (enumP xs) S1
  | [.p (.tup xs)] => .ok (enumP xs) S1
  | _ => .bad
def wEnumA (f : FA) (r : Rho) (S : Store) : O (List D) := (f r S).bind enumAK
theorem wEnumA_e : wEnumA fa r S = (fa r S).bind enumAK := (rfl)
theorem enumAK_l {xs : List P} : enumAK [.p (.lst xs)] S = .ok (enumP xs) S := (rfl)
theorem enumAK_t {xs : List P} : enumAK [.p (.tup xs)] S = .ok (enumP xs) S := (rfl)
end
end RB.F
namespace RB
open PySem PySem.Spec PyProof.Rows L2
section
variable {G : Glob} {X : Cx}
def dEqNil (neg : Bool) (d1 d2 : D) (S : Store) (Q : DK) : Prop := match d1, d2 with
  | .p (.lst xs), .p (.lst []) => Q (.p (.bl (if neg then !xs.isEmpty else xs.isEmpty))) S
  | _, _ => False
end
end RB
namespace RB.F
open PySem PySem.Spec PyProof.Rows L2 RB
section
variable {G : Glob} {X : Cx}
def dEqNil (neg : Bool) (d1 d2 : D) (S : Store) : O D := match d1, d2 with
  | .p (.lst xs), .p (.lst []) => .ok (.p (.bl (if neg then !xs.isEmpty else xs.isEmpty))) S
  | _, _ => .bad
theorem dEqNil_e {neg : Bool} {xs : List P} {S : Store} : dEqNil neg (.p (.lst xs)) (.p (.lst [])) S = .ok (.p (.bl (if neg then !xs.isEmpty else xs.isEmpty))) S := (rfl)
end
end RB.F
namespace RB.F
open PySem PySem.Spec PyProof.Rows L2 RB ClX
structure PrI (G : Glob) (X : Cx) (n : Nat) (f : Str) (c : String) (mf : FD) : Prop where
  isE : G.isE c = false
  run : ∃ (C p g : Addr) (fd : FuncData) (ps : List Str) (k : Nat), G.cls c = some C ∧ Cls X.K C ∧ PropOf X.K C f p g ∧ FnG G X.prog X.w X.mg X.base k g fd ps (spF mf) ∧ k + 1 ≤ n ∧ Binds X.K fd ps []
def propK (tab : ITab) (d : D) (S : Store) : O D := match objOf S d with
  | some (c, _, _) => (match tab.lookup c with
    | some mf => noX (mf [d] S)
    | none => .bad)
  | none => .bad
def wProp (tab : ITab) (fo : FE) (r : Rho) (S : Store) : O D := (fo r S).bind (propK tab)
theorem wProp_e {tab : ITab} {fo : FE} {r : Rho} {S : Store} : wProp tab fo r S = (fo r S).bind (propK tab) := (rfl)
section
variable {G : Glob} {X : Cx} {W : WX} {n : Nat} {o : Expr} {pos : Pos} {fo : FE} {f : Str}
end
def creadB (K : PySem.W.Frag) (c : Str) : Bool := PySem.W.readsIn K (He.ga K c) (.type "type") && dec (PySem.W.specialIn K (.ref (He.ga K c)) "__getattribute__" = some (some (.builtin "type.__getattribute__")))
theorem creadB_ok {K : PySem.W.Frag} {c : Str} (h : creadB K c = true) : CRead K (He.ga K c) (.type "type") := by
  obtain ⟨h1, h2⟩ := and2 h
  exact ⟨h1, dec_ok h2⟩
def cmetB (K : PySem.W.Frag) (c m : Str) : Bool := match PySem.W.findCls K (.ref (He.ga K c)) (.type "type") m with
  | some (.get (.builtin b) (.ref p) .none (.ref C)) => dec (b = "classmethod.__get__") && (decide (C = He.ga K c) && (decide (p = He.ma K (He.ga K c) m) && ((match PySem.W.recIn K p "classmethod" with
    | some (.ref g :: _) => decide (g = fAdR K (c, some m)) && PySem.W.fnIn K g
    | _ => false))))
  | _ => false
theorem cmetB_ok {K : PySem.W.Frag} {c m : Str} (h : cmetB K c m = true) : CMet K (He.ga K c) (.type "type") m (He.ma K (He.ga K c) m) (fAdR K (c, some m)) := by
  unfold cmetB at h
  split at h
  · rename_i b p C e
    obtain ⟨h1, ha⟩ := and2 h
    obtain ⟨h2, hb⟩ := and2 ha
    obtain ⟨h3, hc⟩ := and2 hb
    clear h ha hb
    have h1 := dec_ok h1
    have h2 := of_decide_eq_true h2
    have h3 := of_decide_eq_true h3
    subst h1
    subst h2
    subst h3
    split at hc
    · rename_i g rest er
      obtain ⟨h4, h5⟩ := and2 hc
      have h4 := of_decide_eq_true h4
      subst h4
      exact ⟨e, ⟨rest, er⟩, h5⟩
    · cases hc
  · cases h
def cvalB (K : PySem.W.Frag) (c f : Str) (i : Int) : Bool := match PySem.W.findCls K (.ref (He.ga K c)) (.type "type") f with
  | some (.val (.int j _)) => decide (i = j)
  | _ => false
theorem cvalB_ok {K : PySem.W.Frag} {c f : Str} {i : Int} (h : cvalB K c f i = true) : ∃ u, CVal K (He.ga K c) (.type "type") f (.int i) u := by
  unfold cvalB at h
  split at h
  · rename_i j t e
    have h := of_decide_eq_true h
    subst h
    exact ⟨_, e, t, rfl⟩
  · cases h
section
variable {G : Glob} {X : Cx} {W : WX} {n k : Nat} {o fe e : Expr} {es : List Expr} {pos apos : Pos} {fo : FE} {fa : FA}
theorem re_ccon {f : Str} {i : Int} {C0 : Addr} {mc u : Value} (hK : X.K = G.K) (ho : PE X o (tC (.ref C0))) (rd : CRead G.K C0 mc) (cv : CVal G.K C0 mc f (.int i) u) (hab : attributeBase o f X.env (eval o X.env) = eval o X.env := by rfl) : RE G X W (.Attribute o f pos) (wC (.p (.int i))) := by
  rw [← hK] at rd cv
  refine ⟨PE.imp (pe_cval ho hab) fun σ H Q ⟨w, S, r, ok, en, q⟩ => ?_, lf_mon _⟩
  have q : Qv G w H Q (.p (.int i)) S := q
  exact ⟨C0, mc, .int i, u, rfl, rd, cv, q.here ok (rep_int.mpr rfl)⟩
def isFn : D → Bool
  | .fn => true
  | _ => false
def clmK (mf : FD) (ds : List D) (S1 : Store) : O D := match ds.any isFn with
  | true => .bad
  | false => noFn (mf (.fn :: ds) S1)
def wClsM (mf : FD) (fa : FA) (r : Rho) (S : Store) : O D := (fa r S).bind (clmK mf)
theorem wClsM_e {mf : FD} {r : Rho} {S : Store} : wClsM mf fa r S = (fa r S).bind (clmK mf) := (rfl)
theorem clmK_e1 {mf : FD} {p : P} {S : Store} : clmK mf [.p p] S = noFn (mf [.fn, .p p] S) := (rfl)
theorem repDs_at {f : Addr} {I0 : Hp} {as0 : List Addr} {w : Wd} : ∀ {vs : List V} {ds : List D}, ds.any isFn = false → RepDs G w vs ds → RepDs (G.at f I0 as0) w vs ds
  | [], [], _, _ => trivial
  | v :: vs, d :: ds, h, ⟨r, t⟩ => by
    rw [List.any_cons, Bool.or_eq_false_iff] at h
    exact ⟨(repD_at fun e => by rw [e] at h; exact absurd h.1 (by decide)).mpr r, repDs_at h.2 t⟩
  | [], _ :: _, _, h => h.elim
theorem cls_eq {mg : Str → Option Value} {x : Str} {a b : Addr} (h1 : mg x = some (.ref a)) (h2 : mg x = some (.ref b)) : a = b := by
  rw [h1] at h2
  injection h2 with h2
  injection h2
theorem re_cm {m : Str} {mf : FD} {mc : Value} {C0 C1 p0 g : Addr} {fd : FuncData} {ps : List Str} {pl : Sem Bool} (C : CxG G X W n) (hC : C1 = C0) (ho : PE X o (tC (.ref C0))) (rd : CRead G.K C1 mc) (cm : CMet G.K C1 mc m p0 g) (F : FnG (G.at C0 G.I0 G.as0) X.prog X.w X.mg X.base k g fd ps (spF mf)) (hk : k ≤ n) (hb : Binds G.K fd ps []) (ha : RA G X W (e :: es) fa)
    (hst : starEach (e :: es) X.env = (false, eval e X.env) :: starEach es X.env := by rfl) (hpl : (backTo pos (starEach es X.env)).any (·.1) = false := by rfl)
    (hev : eval (.Call (.Attribute o m apos) (e :: es) [] pos) X.env = (do
      let ov ← eval o X.env
      standAt apos.atName
      let (f, first) ← holding [ov] (getMethod ov m pl)
      callWith pos f first (backTo pos (starEach (e :: es) X.env)) (backToKw pos (keywordEach [] X.env))) := by rfl) :
    RE G X W (.Call (.Attribute o m apos) (e :: es) [] pos) (wClsM mf fa) := by
  have hC := hC.symm
  subst hC
  rw [← C.hK] at rd cm hb
  refine ⟨⟨fun pins s σ H Q J ⟨w, S, r, ok, en, q⟩ => ?_⟩, lf_mon _⟩
  have q : out (wClsM mf fa r S) (Qv G w H Q) (Qx G w H fun c d H' => W c d σ H') := q
  unfold wClsM at q
  rw [out_bind] at q
  have h1 : tMa G W (lf fa) σ H fun vs H2 => spV (G.at C0 G.I0 G.as0) (spF mf) (.ref C0 :: vs) H2 Q fun c d H' => W c d σ H' := by
    refine ⟨w, S, r, ok, en, out_mono q (fun ds S1 z vs w1 H1 x1 k1 r1 => ?_) fun _ _ z => z⟩
    unfold clmK at z
    split at z
    · exact z.elim
    · rename_i hn
      have z := out_noFn z
      refine ⟨w1, S1, .fn :: ds, wok_at k1 k1.tb.un, ⟨rfl, repDs_at hn r1⟩, out_mono z (fun d S2 y v w2 H2 x2 k2 r2 => ?_) fun x S2 y c dd w2 H2 x2 k2 r2 => ?_⟩
      · exact (y.2.ext x1) v w2 H2 x2 (wok_back k2 k2.tb.un) ((repD_at y.1).mp r2)
      · exact (y.ext x1) c dd w2 H2 x2 (wok_back k2 k2.tb.un) (repX_at.mp r2)
  have h0 : tC (.ref C0) σ H fun x H1 => x = .ref C0 ∧ H1 = H := ⟨rfl, rfl⟩
  refine PySem.W.methodCall_KW (pl := pl) (thn (ho.run pins s σ H _ J h0) fun u s1 ⟨x, H1, J1, rx, ex, eH⟩ => ?_) hev
  subst ex
  subst eH
  obtain rfl : u = Value.ref C0 := rx
  refine getmethcm_ok J1 rd cm fun s2 J2 => ?_
  refine callwith_cm J2 (base_none J1 (Nat.le_refl _)) cm.fi (thn (ha.pe.run pos _ s2 σ H1 _ J2 h1) fun us s3 ⟨vs, H2, J3, rv, sv⟩ => ⟨⟨pin_at J3, J3.kIn⟩, ?_⟩) hst hpl
  have r2 : Vals (.ref C0 :: vs) (.ref C0 :: us) := .cons rfl rv
  have hl : (Value.ref C0 :: us).length = ps.length := by
    obtain ⟨w3, S3, es3, _, rd3, q3⟩ := id sv
    rw [← r2.length, rd3.length]
    exact F.len _ _ _ _ q3
  have e0 := J3.env0
  rw [C.hK] at e0
  have z : wpAny (model X.prog X.w) X.A (call (.ref s1.heap.objs.size) us) (EP X ((s1.heap.objs.size, PySem.W.methodObj (.ref g) (.ref C0)) :: pins) σ Q) X.xe s3 := by
    refine wpAny_call (PySem.W.method_call (pin_at J3) ?_)
    refine codeAny_mono (F.run X.A X.stack s3 H2 ⟨.ref C0 :: us, []⟩ (.ref C0 :: us) (.ref C0 :: vs) Q _ (C.rm.mono hk) C.gd e0 (by
      have := hb s3 (.ref C0 :: us) J3.kIn (by simpa using hl)
      simpa using this) r2 sv) fun z s' hq => ?_
    cases z with
    | error er => exact passAt C.tk σ _ H2 s3 er s' J3 hq
    | ok fl =>
      cases fl with
      | ret u => exact J3.after hq
      | next => exact hq.elim
      | brk => exact hq.elim
      | cont => exact hq.elim
  exact thn z fun _ _ y => unpinE y
end
end RB.F
namespace RB
open PySem PySem.Spec PyProof.Rows L2
section
variable {G : Glob} {X : Cx} {W : WX} {n k m : Nat} {f Cc : Addr} {fd : FuncData} {ps ks : List Str} {sp : DSp} {gD : List D → List D → List D} {x : Str} {p pos : Pos} {e fe : Expr} {es : List Expr} {kws : List Keyword} {ma mk : WA} {c : String}
theorem make_core (nc : G.cels = false) (C : CxG G X W n) (M : Mk X.K Cc f) (F : FnG G X.prog X.w X.mg X.base k f fd ps sp) (hk : k + 1 ≤ n) (hc : G.cls c = some Cc) (hi : G.isE c = false) (hb : Bd G X.K fd ps (m + 1) [] gD) (ha : RA G X W (e :: es) ma)
    (he : starEach (e :: es) X.env = (false, eval e X.env) :: starEach es X.env) (hpl : (backTo pos (starEach es X.env)).any (·.1) = false)
    {pins : List (Addr × Obj)} {σ : L2.St} {H : Hp} {s : Shared} {Q : VK} (J : Inv X pins σ H s) {w : Wd} {S : Store} {r : Rho} (ok : Wok G w S H) (en : EnvOk G w σ r) (q : wMake c sp m 0 gD ma (fun _ S Q _ => Q [] S) r S (Qv G w H Q) (Qx G w H fun c d H' => W c d σ H')) :
    wpAny (model X.prog X.w) X.A (callWith pos (.ref Cc) [] (backTo pos (starEach (e :: es) X.env)) (backToKw pos (keywordEach [] X.env))) (EP X pins σ Q) X.xe s := by
  obtain ⟨g, gV, hb, hr⟩ := hb
  have h1 : tMa G W ma σ H fun vs H2 => vs.length = m ∧ ∀ y dx, H2 y = none → H2 dx = none → dx ≠ y → spV G sp (gV (.ref y :: vs) []) (L2.upd (L2.upd H2 dx (.own y)) y (.ins Cc dx [])) (fun v H3 => v = .non ∧ Q (.ref y) H3) fun c d H' => W c d σ H' := by
    refine ⟨w, S, r, ok, en, ha.mono r S _ _ _ _ (fun ds S1 z vs w1 H1 x1 k1 r1 => ?_) (fun _ _ z => z) q⟩
    obtain ⟨l1, l2, u⟩ := z
    refine ⟨by rw [r1.length, l1], fun y dx ny nd ne => ?_⟩
    exact make_low nc F.mono hc hi k1 ny nd ne (dd := fun d => gD (d :: ds) []) (fun w' x' ry => hr w' _ _ _ _ ⟨ry, r1.mono x'⟩ trivial) (dMake_mono F.mono (fun _ _ v => v.ext x1) (fun _ _ v => v.ext x1) u)
  refine PySem.W.callWith_K (h₀ := X.base) J.ok.mod.kin M.kp (thn (ha.pe.run pos pins s σ H _ J h1) fun us s1 ⟨vs, H1, J1, rv, l1, q1⟩ => ⟨J1.kIn, ?_⟩) he hpl
  exact run_mk (ks := []) (ws := []) (zs := []) C M F hk hb J1 rv .nil l1 rfl q1
end
end RB
namespace RB.F
open PySem PySem.Spec PyProof.Rows L2 RB
section
variable {G : Glob} {X : Cx} {W : WX} {n k m : Nat} {f Cc : Addr} {fd : FuncData} {ps ks : List Str} {gD : List D → List D → List D} {x : Str} {p pos : Pos} {e fe : Expr} {es : List Expr} {kws : List Keyword} {mf : FD} {c : String} {fo : FE} {fa fk : FA}
def mkcK (c : String) (mf : FD) (m : Nat) (gD : List D → List D → List D) (fa : FA) (r : Rho) (d : D) (S1 : Store) : O D := match d with
  | .fn => wMake c mf m 0 gD fa wNil r S1
  | _ => .bad
def wMakeC (c : String) (mf : FD) (m : Nat) (gD : List D → List D → List D) (fo : FE) (fa : FA) (r : Rho) (S : Store) : O D := (fo r S).bind (mkcK c mf m gD fa r)
theorem wMakeC_e {r : Rho} {S : Store} : wMakeC c mf m gD fo fa r S = (fo r S).bind (mkcK c mf m gD fa r) := (rfl)
theorem mkcK_e {r : Rho} {S : Store} : mkcK c mf m gD fa r .fn S = wMake c mf m 0 gD fa wNil r S := (rfl)
theorem re_makeC (nc : G.cels = false) (C : CxG G X W n) (hf : G.fa = Cc) (M : Mk G.K Cc f) (F : FnG G X.prog X.w X.mg X.base k f fd ps (spF mf)) (hk : k + 1 ≤ n) (hc : G.cls c = some Cc) (hi : G.isE c = false) (hb : Bd G G.K fd ps (m + 1) [] gD) (ho : RE G X W fe fo) (ha : RA G X W (e :: es) fa)
    (he : starEach (e :: es) X.env = (false, eval e X.env) :: starEach es X.env := by rfl) (hpl : (backTo pos (starEach es X.env)).any (·.1) = false := by rfl)
    (hev : eval (.Call fe (e :: es) [] pos) X.env = (eval fe X.env >>= fun f => callWith pos f [] (backTo pos (starEach (e :: es) X.env)) (backToKw pos (keywordEach [] X.env))) := by rfl) : RE G X W (.Call fe (e :: es) [] pos) (wMakeC c mf m gD fo fa) := by
  rw [← C.hK] at M hb
  refine ⟨⟨fun pins s σ H Q J ⟨w, S, r, ok, en, q⟩ => ?_⟩, lf_mon _⟩
  have q : out (wMakeC c mf m gD fo fa r S) (Qv G w H Q) (Qx G w H fun c d H' => W c d σ H') := q
  unfold wMakeC at q
  rw [out_bind] at q
  have h1 : tM G W (lf fo) σ H fun x H1 => x = .ref Cc ∧ ∃ w1 S1, Wok G w1 S1 H1 ∧ EnvOk G w1 σ r ∧ out (wMake c mf m 0 gD fa wNil r S1) (Qv G w1 H1 Q) (Qx G w1 H1 fun c d H' => W c d σ H') := by
    refine tM.bind (lf_mon fo) ok en q (fun _ _ _ z => z) fun d S1 x w1 H1 x1 k1 r1 z => ?_
    unfold mkcK at z
    split at z
    · have r1 : x = .ref G.fa := r1
      exact ⟨by rw [r1, hf], w1, S1, k1, en.mono x1, out_mono z (fun _ _ u => u.ext x1) fun _ _ u => u.ext x1⟩
    · exact z.elim
  rw [hev]
  refine wpAny_bind (thn (ho.pe.run pins s σ H _ J h1) fun u s1 ⟨x, H1, J1, rx, ex, w1, S1, k1, en1, q1⟩ => ?_)
  subst ex
  obtain rfl : u = Value.ref Cc := rx
  exact make_core nc C M F hk hc hi hb ha he hpl J1 k1 en1 (make_in q1)
def callK2 (mf : FD) (gD : List D → List D → List D) (n m : Nat) (ds zs : List D) (S2 : Store) : O D := if decide (ds.length = n) && decide (zs.length = m) then mf (gD ds zs) S2 else .bad
def callK1 (mf : FD) (gD : List D → List D → List D) (n m : Nat) (fk : FA) (r : Rho) (ds : List D) (S1 : Store) : O D := (fk r S1).bind (callK2 mf gD n m ds)
def wCallKP (mf : FD) (gD : List D → List D → List D) (n m : Nat) (fa fk : FA) (r : Rho) (S : Store) : O D := (fa r S).bind (callK1 mf gD n m fk r)
theorem wCallKP_e {r : Rho} {S : Store} : wCallKP mf gD n m fa fk r S = (fa r S).bind (callK1 mf gD n m fk r) := (rfl)
theorem callK1_e {r : Rho} {S : Store} {ds : List D} : callK1 mf gD n m fk r ds S = (fk r S).bind (callK2 mf gD n m ds) := (rfl)
theorem callK2_e {S : Store} {ds zs : List D} : callK2 mf gD n m ds zs S = if decide (ds.length = n) && decide (zs.length = m) then mf (gD ds zs) S else .bad := (rfl)
end
end RB.F
namespace RB
open PySem PySem.Spec PyProof.Rows L2 StX
section
variable {X : Cx} {pos p : Pos} {e e2 : Expr} {es : List Expr}
end
structure FnV (G : Glob) (P : Program) (w : World) (mg : Str → Option Value) (base : Heap) (k : Nat) (f : Addr) (sp : DSp) : Prop where
  mono : DMon sp
  run : ∀ (A : Around) (outer : List Env) (s : Shared) (H : Hp) (us : List Value) (vs : List V) (Q : VK) (E : XK), Room k A → A.guards = some [] → Env0 P w G.K mg base A outer s H → Vals vs us → spV G sp vs H Q E →
    codeAny (model P w) A (.call (.ref f) ⟨us, []⟩) (CR (L2.CX P w) outer P w H s Q E) s
theorem repDs_split {G : Glob} {w : Wd} : ∀ (n : Nat) {vs : List V} {ds : List D}, RepDs G w vs ds → RepDs G w (vs.take n) (ds.take n) ∧ RepDs G w (vs.drop n) (ds.drop n)
  | 0, vs, ds, h => by simpa using ⟨trivial, h⟩
  | n + 1, [], [], h => by simpa using h
  | n + 1, v :: vs, d :: ds, ⟨a, t⟩ => by
    obtain ⟨h1, h2⟩ := repDs_split n t
    exact ⟨⟨a, h1⟩, h2⟩
  | n + 1, [], _ :: _, h => h.elim
section
variable {G : Glob} {X : Cx} {W : WX} {n k : Nat} {f Cc : Addr} {sp : DSp} {pos p : Pos} {e fe : Expr} {es : List Expr} {ma : WA} {c : String} {x : Str}
def wMakeV (c : String) (sp : DSp) (ma : WA) : WE := fun r S Q E => ma r S (fun ds S1 => dMake c sp (fun d => d :: ds) S1 Q E) E
end
end RB
namespace RB.F
open PySem PySem.Spec PyProof.Rows L2 RB StX
def starD (n : Nat) (mf : FD) (ds : List D) (S : Store) : O D := if decide (n ≤ ds.length) then (match allP (ds.drop n) with
  | some ps => if decide (ps.length ≤ sizeLine) then mf (ds.take n ++ [.p (.tup ps)]) S else .bad
  | none => .bad) else .bad
section
variable {G : Glob} {P : Program} {w : World} {mg : Str → Option Value} {base : Heap} {x qual : Str} {params : Arguments} {body : List Stmt} {scope : Scope} {kws : List (Str × V)} {fa : Addr} {fd : FuncData} {N ps : List Str} {pv : Str} {k : Nat} {f : FS}
end
section
variable {G : Glob} {X : Cx} {W : WX} {n k : Nat} {f Cc : Addr} {pos p : Pos} {es : List Expr} {fa : FA} {c : String} {x : Str} {mf : FD} {r : Rho} {S : Store}
def mkvK (c : String) (mf : FD) (ds : List D) (S1 : Store) : O D := mkF (mf (.cell S1.length :: ds) (S1 ++ [.obj c [] []])) S1.length
def wMakeV (c : String) (mf : FD) (fa : FA) (r : Rho) (S : Store) : O D := (fa r S).bind (mkvK c mf)
theorem wMakeV_e : wMakeV c mf fa r S = (fa r S).bind (mkvK c mf) := (rfl)
theorem mkvK_e {ds : List D} : mkvK c mf ds S = mkF (mf (.cell S.length :: ds) (S ++ [.obj c [] []])) S.length := (rfl)
end
end RB.F
namespace RB
open PySem PySem.Spec PyProof.Rows L2 StX
end RB
namespace RB.F
open PySem PySem.Spec PyProof.Rows L2 RB StX
section
variable {G : Glob} {X : Cx} {W : WX} {n k : Nat} {f Cc : Addr} {pos p sp_ : Pos} {e : Expr} {fe : FE} {c : String} {x : Str} {mf : FD} {r : Rho} {S : Store}
theorem starD1_e {d : D} {ds : List D} : starD 1 mf (d :: ds) S = match allP ds with
    | some ps => if decide (ps.length ≤ sizeLine) then mf [d, .p (.tup ps)] S else .bad
    | none => .bad := by
  unfold starD
  rw [if_pos (by simp)]
  rfl
end
end RB.F
namespace RB.F
open PySem PySem.Spec PyProof.Rows L2 RB StX
section
variable {G : Glob} {X : Cx} {W : WX} {apos cpos : Pos}
def dGet1 (d k : D) (S : Store) : O D := match keyOf k with
  | some ky => match d with
    | .p (.dK ks vs) => match klook ks vs ky with
      | some q => .ok (.p q) S
      | none => .ok (.p .non) S
    | _ => .bad
  | none => .bad
def get1K2 (d k : D) (S3 : Store) : O D := dGet1 d k S3
def get1K (f1 : FE) (r : Rho) (d : D) (S1 : Store) : O D := match d with
  | .p (.dK _ _) => (f1 r S1).bind (get1K2 d)
  | _ => .bad
def wGet1 (f0 f1 : FE) (r : Rho) (S : Store) : O D := (f0 r S).bind (get1K f1 r)
theorem wGet1_e {f0 f1 : FE} {r : Rho} {S : Store} : wGet1 f0 f1 r S = (f0 r S).bind (get1K f1 r) := (rfl)
theorem get1K_e {f1 : FE} {r : Rho} {S : Store} {ks : List Key} {vs : List RB.P} : get1K f1 r (.p (.dK ks vs)) S = (f1 r S).bind (get1K2 (.p (.dK ks vs))) := (rfl)
theorem get1K2_s {S : Store} {ks : List Key} {vs : List RB.P} {t : Str} : get1K2 (.p (.dK ks vs)) (.p (.str t)) S = (match klook ks vs (.inr t) with
  | some q => .ok (.p q) S
  | none => .ok (.p .non) S) := (rfl)
end
end RB.F
namespace RB
open PySem PySem.Spec PyProof.Rows L2
section
variable {X : Cx}
def revS (z : Str) : Str := ⟨z.cps.toList.reverse.toArray⟩
end
end RB
namespace RB.F
open PySem PySem.Spec PyProof.Rows L2 RB StX
section
variable {G : Glob} {X : Cx} {W : WX} {e e2 : Expr} {elts : List Expr} {kk : Nat} {p pos tpos : Pos} {f : FE} {fa : FA} {r : Rho} {S : Store}
def revSK (d : D) (S1 : Store) : O D := match d with
  | .p (.str z) => chk (decide (z.length ≤ sizeLine)) (.p (.str (revS z))) S1
  | _ => .bad
def wRevS (f : FE) (r : Rho) (S : Store) : O D := (f r S).bind revSK
theorem wRevS_e : wRevS f r S = (f r S).bind revSK := (rfl)
theorem revSK_s {z : Str} : revSK (.p (.str z)) S = chk (decide (z.length ≤ sizeLine)) (.p (.str (revS z))) S := (rfl)
def zipSD (x y : Str) : List D := (x.cps.toList.zip y.cps.toList).map fun q => .p (.tup [.str ⟨#[q.1]⟩, .str ⟨#[q.2]⟩])
def zipSK (ds : List D) (S1 : Store) : O (List D) := match ds with
  | [.p (.str x), .p (.str y)] => .ok (zipSD x y) S1
  | _ => .bad
def wZipS (fa : FA) (r : Rho) (S : Store) : O (List D) := (fa r S).bind zipSK
theorem wZipS_e : wZipS fa r S = (fa r S).bind zipSK := (rfl)
theorem zipSK_s {x y : Str} : zipSK [.p (.str x), .p (.str y)] S = .ok (zipSD x y) S := (rfl)
end
end RB.F
namespace RB
open PySem PySem.Spec PyProof.Rows L2
section
variable {G : Glob} {X : Cx} {W : WX} {e : Expr} {pos : Pos}
end
end RB
namespace RB.F
open PySem PySem.Spec PyProof.Rows L2 RB
section
variable {G : Glob} {X : Cx} {W : WX} {e : Expr} {pos : Pos}
end
end RB.F
namespace GQ
open PySem PySem.SeqAt
open MeetsSeq MeetsSeq2 MeetsSeq3 SeqRoads2
section
variable {prog : Program} {w : World} {A : Around} {R : Result → Shared → Prop}
theorem tuple_eqB (l b : Addr) (items items2 : Array Value) (n n2 : Nat) (dd dd2 : Option Addr) (sl sl2 : Array (Option Value)) (B : Nat → Bool) (bR : Bool) (I : Nat → Shared → Prop)
    (hF : ∀ i, i < items.size → i < items2.size → B i = false → bR = false) (hT : (∀ i, i < items.size → i < items2.size → B i = true) → bR = (items.size == items2.size))
    (turn : ∀ i (h1 : i < items.size) (h2 : i < items2.size) s, (∀ j, j < i → B j = true) → I i s → wpAny (model prog w) A.in1 (eqBool items[i] items2[i]) (fun r s' => r = B i ∧ I (i + 1) s') (fun e s' => R (.error e) s') s)
    (fin : ∀ i s, I i s → R (.ok (.ret (.bool bR))) s) {s : Shared} (hl1 : s.heap.get? l = some { cls := .type "tuple", dict := dd, data := .seq items n, slots := sl }) (hb1 : s.heap.get? b = some { cls := .type "tuple", dict := dd2, data := .seq items2 n2, slots := sl2 }) (h : I 0 s) :
    wpAny (model prog w) A.in1 (Builtin.«tuple.__eq__» ⟨[.ref l, .ref b], []⟩) (FinOf prog w A R) (fun e s' => R (.error e) s') s := by
  have f2 := AutoSeq1.sub_tuple_tuple
  have hZ : (items.toList.zip items2.toList).length = min items.size items2.size := by simp
  have h0 := h
  obtain ⟨hp, g, d, tk, os⟩ := s
  wp_walk using AutoSeq1.wpAny_loadPart' hl1, AutoSeq1.wpAny_loadPart' hb1, wpAny_forIn_list _ (fun rest b s' => b.1 = none ∧ ∃ i, rest = (items.toList.zip items2.toList).drop i ∧ i ≤ min items.size items2.size ∧ I i s' ∧ ∀ j, j < i → B j = true) _
  case turn =>
    rintro ⟨y, x⟩ rest b s' ⟨hb', i, hz, hi, hI, hB⟩
    have hlt : i < (items.toList.zip items2.toList).length := by
      rcases Nat.lt_or_ge i (items.toList.zip items2.toList).length with h' | h'
      · exact h'
      · rw [List.drop_of_length_le h'] at hz; cases hz
    have h1 : i < items.size := by omega
    have h2 : i < items2.size := by omega
    rw [List.drop_eq_getElem_cons hlt] at hz
    injection hz with hyx hrest
    have hy : y = items[i] := by have := congrArg Prod.fst hyx; simpa using this
    have hx : x = items2[i] := by have := congrArg Prod.snd hyx; simpa using this
    subst hy hx
    refine wpAny_bind (wpAny_mono (turn i h1 h2 s' hB hI) (fun r s2 q2 => ?_) fun _ _ x => x)
    obtain ⟨hr, q2⟩ := q2
    cases hBi : B i with
    | true =>
      rw [hBi] at hr
      subst hr
      wp_walk
      exact ⟨rfl, i + 1, hrest, by omega, q2, fun j hj => by
        by_cases e : j = i
        · rw [e]; exact hBi
        · exact hB j (by omega)⟩
    | false =>
      rw [hBi] at hr
      subst hr
      have hR : R (.ok (.ret (.bool false))) s2 := by
        have := fin (i + 1) s2 q2
        rwa [hF i h1 h2 hBi] at this
      wp_walk
      exact hR
  case fin =>
    rintro ⟨b1, b2⟩ s' ⟨hb', i, hz, hi, hI, hB⟩
    simp only at hb'
    subst hb'
    have hge : min items.size items2.size ≤ i := by
      rcases Nat.lt_or_ge i (items.toList.zip items2.toList).length with h' | h'
      · rw [List.drop_eq_getElem_cons h'] at hz; cases hz
      · omega
    have e : bR = (items.size == items2.size) := hT fun j h1 h2 => hB j (by omega)
    have hR : R (.ok (.ret (.bool bR))) s' := fin i s' hI
    rw [e] at hR
    wp_walk
    simpa [Builtin.Tuple.tupleCompareSizes] using hR
  case h =>
    exact ⟨rfl, 0, rfl, Nat.zero_le _, h0, fun j hj => absurd hj (Nat.not_lt_zero _)⟩
variable {E : Value → Shared → Prop} {s : Shared}
theorem rc_tupB {l b : Addr} {items items2 : Array Value} {Q : Value → Shared → Prop} (B : Nat → Bool) (bR : Bool) (hu : A.units < cLine) (I : Nat → Shared → Prop)
    (hl : s.heap.IsTuple l items) (hb : s.heap.IsTuple b items2)
    (hF : ∀ i, i < items.size → i < items2.size → B i = false → bR = false) (hT : (∀ i, i < items.size → i < items2.size → B i = true) → bR = (items.size == items2.size))
    (turn : ∀ i (h1 : i < items.size) (h2 : i < items2.size) s, (∀ j, j < i → B j = true) → I i s → wpAny (model prog w) A.in1 (eqBool items[i] items2[i]) (fun r s' => r = B i ∧ I (i + 1) s') E s)
    (fin : ∀ i s, I i s → Q (.bool bR) s) (h : I 0 s) : wpAny (model prog w) A (richCompare .Eq (.ref l) (.ref b)) Q E s := by
  obtain ⟨⟨cls, dd, data, sl⟩, ho, hc, n, hd⟩ := id hl
  obtain ⟨⟨cls2, dd2, data2, sl2⟩, ho2, hc2, n2, hd2⟩ := id hb
  simp only at hc hd hc2 hd2
  subst hc hd hc2 hd2
  refine wpAny_richCompare_same_room (op := .Eq) ⟨_, ho, rfl⟩ ⟨_, ho2, rfl⟩ F.slot_tuple_eq (call_here F.slot_tuple_eq ⟨_, ho, rfl⟩ F.entry_tuple_eq (F.args_tuple_eq_2 _ _) ?_) hu
  exact tuple_eqB (R := wants (fun v s' => v ≠ .notImplemented ∧ Q v s') E) l b items items2 n n2 dd dd2 sl sl2 B bR I hF hT turn (fun i s' q => ⟨(fun x => nomatch x), fin i s' q⟩) ho ho2 h
end
end GQ
namespace RB.F
open PySem PySem.Spec PyProof.Rows L2 RB
mutual
def plainP : P → Bool
  | .non => true
  | .bl _ => true
  | .int _ => true
  | .str _ => true
  | .tup ds => plainPs ds
  | _ => false
def plainPs : List P → Bool
  | [] => true
  | d :: ds => plainP d && plainPs ds
end
section
variable {G : Glob} {X : Cx} {W : WX} {n k : Nat} {pins : List (Addr × Obj)} {σ : L2.St} {H : Hp} {s : Shared} {w : Wd} {S : Store}
def EqOneT (tab : ITab) (b : Bool) : P → P → Prop
  | .obj c1 n1 v1, .obj c2 n2 v2 => c1 = c2 ∧ (∃ mf, tab.lookup c1 = some mf ∧ ∀ S, mf [.p (.obj c1 n1 v1), .p (.obj c2 n2 v2)] S = .ok (.p (.bl b)) S) ∧ (b = true ∨ plainPs v1 = true ∧ plainPs v2 = true ∧ v1 ≠ v2)
  | _, _ => False
inductive EqRow (tab : ITab) : List P → List P → Bool → Prop
  | nil : EqRow tab [] [] true
  | nilL {y : P} {ys : List P} : EqRow tab [] (y :: ys) false
  | nilR {x : P} {xs : List P} : EqRow tab (x :: xs) [] false
  | same {x y : P} {xs ys : List P} {b : Bool} (h : EqOneT tab true x y) (t : EqRow tab xs ys b) : EqRow tab (x :: xs) (y :: ys) b
  | diff {x y : P} {xs ys : List P} (h : EqOneT tab false x y) : EqRow tab (x :: xs) (y :: ys) false
theorem EqOneT.fn {tab : ITab} {x y : P} {b1 b2 : Bool} (h1 : EqOneT tab b1 x y) (h2 : EqOneT tab b2 x y) : b1 = b2 := by
  unfold EqOneT at h1
  split at h1
  · obtain ⟨rfl, ⟨mf, l1, g1⟩, _⟩ := h1
    obtain ⟨_, ⟨mf2, l2, g2⟩, _⟩ := h2
    rw [l1] at l2
    cases l2
    have := (g1 []).symm.trans (g2 [])
    simpa using this
  · exact h1.elim
theorem EqRow.fn {tab : ITab} : ∀ {xs ys : List P} {b1 b2 : Bool}, EqRow tab xs ys b1 → EqRow tab xs ys b2 → b1 = b2
  | _, _, _, _, .nil, .nil => rfl
  | _, _, _, _, .nilL, .nilL => rfl
  | _, _, _, _, .nilR, .nilR => rfl
  | _, _, _, _, .same _ t, .same _ t2 => EqRow.fn t t2
  | _, _, _, _, .same h _, .diff h2 => by have := h.fn h2; cases this
  | _, _, _, _, .diff h, .same h2 _ => by have := h.fn h2; cases this
  | _, _, _, _, .diff _, .diff _ => rfl
variable {a b : Expr} {pos : Pos} {f1 f2 : FE}
theorem qtab_nil : ∀ q ∈ ([] : ITab), EqC G X n q.1 q.2 := fun q h => by cases h
theorem qtab_cons {c : String} {mf : FD} {tab : ITab} (h : EqC G X n c mf) (t : ∀ q ∈ tab, EqC G X n q.1 q.2) : ∀ q ∈ (c, mf) :: tab, EqC G X n q.1 q.2 := List.forall_mem_cons.mpr ⟨h, t⟩
end
end RB.F
namespace RB.F
open PySem PySem.Spec PyProof.Rows L2 RB
section
variable {r : Rho} {S S1 : Store} {b b1 b2 : Bool} {t u : FT} {A B : FS} {f1 f2 : FE}
theorem iT (h : t r S = .ok b S1) : wIfS t A B r S = if b = true then A r S1 else B r S1 := by
  unfold wIfS
  rw [h]
  rfl
theorem eT (h : t r S = .ok b S1) : wIf t f1 f2 r S = if b = true then f1 r S1 else f2 r S1 := by
  unfold wIf
  rw [h]
  rfl
end
end RB.F
namespace RB.F
open PySem PySem.Spec PyProof.Rows L2 RB
section
open PySem.W
variable {prog : Program} {w : World} {A : Around} {E : Value → Shared → Prop} {s : Shared} {K : Frag} {x y C C' L f g : Addr} {h₀ : Heap} {m : Str → Option Value} {ox oy : Obj} {od od' : Option Obj}
end
section
variable {G : Glob} {X : Cx} {W : WX} {n k : Nat}
end
end RB.F
namespace RB
open PySem PySem.Spec PyProof.Rows L2
section
variable {G : Glob} {X : Cx} {W : WX} {e : Expr} {pos : Pos} {m : WE}
def nest4 : D → Option (List P × List P)
  | .p (.tup [.tup [p, q], .tup [s, t]]) => some ([p, q], [s, t])
  | _ => none
def wAsgN (i j k l : Nat) (m : WE) : WS := fun D r S => m r S (fun d S1 => match nest4 d with
  | some (a, b) => D.nx (setAll [k, l] b (setAll [i, j] a r)) S1
  | none => False) (D.xc r)
end
end RB
namespace RB.F
open PySem PySem.Spec PyProof.Rows L2 RB
section
variable {G : Glob} {X : Cx} {W : WX} {e : Expr} {pos : Pos}
def asgN (i j k l : Nat) (r : Rho) (d : D) (S1 : Store) : R := match nest4 d with
  | some (a, b) => .nx (setAll [k, l] b (setAll [i, j] a r)) S1
  | none => .bad
def wAsgN (i j k l : Nat) (f : FE) (r : Rho) (S : Store) : R := (f r S).st r (asgN i j k l r)
theorem asgN_e {i j k l : Nat} {r : Rho} {p q s t : P} {S : Store} : asgN i j k l r (.p (.tup [.tup [p, q], .tup [s, t]])) S = .nx (setAll [k, l] [s, t] (setAll [i, j] [p, q] r)) S := rfl
def lrK1 (d : D) (S : Store) : O D := match d with
  | .p (.int j) => chk (rgOkB 0 j) (.p (.lst (rgP 0 j))) S
  | _ => .bad
def wListR1 (f : FE) (r : Rho) (S : Store) : O D := (f r S).bind lrK1
theorem lrK1_e {j : Int} {S : Store} : lrK1 (.p (.int j)) S = chk (rgOkB 0 j) (.p (.lst (rgP 0 j))) S := (rfl)
end
end RB.F
namespace GQ
open PySem PySem.SeqAt
open MeetsSeq
section
variable {y C : Addr} {oy : Obj}
end
end GQ
namespace GQ
open PySem PySem.SeqAt
open MeetsSeq
section
variable {prog : Program} {w : World} {A : Around} {R : Result → Shared → Prop} {y C l : Addr}
end
end GQ
namespace GQ
open PySem PySem.SeqAt
section
variable {prog : Program} {w : World} {A : Around} {E : Value → Shared → Prop} {s : Shared} {K : PySem.W.Frag} {x C D f : Addr} {h₀ : Heap} {ox oy : Obj} {od od2 : Option Obj} {a b : Value} {y : Addr}
end
end GQ
namespace RB.F
open PySem PySem.Spec PyProof.Rows L2 RB
abbrev tys7 : List String := ["NoneType", "bool", "int", "str", "tuple", "list", "dict"]
def anyB (K : PySem.W.Frag) (C : Addr) : Bool := tys7.all fun T => dec (PySem.W.subIn K (.type T) (.ref C) = some false) && dec (PySem.W.subIn K (.ref C) (.type T) = some false)
def subBel (K : PySem.W.Frag) (D C : Addr) (b : Bool) : Bool := dec (PySem.W.subIn K (.ref D) (.ref C) = some b) && dec (D ≠ C)
section
variable {G : Glob} {X : Cx} {W : WX} {n k : Nat} {pins : List (Addr × Obj)} {σ : L2.St} {H : Hp} {s : Shared} {w : Wd} {S : Store}
end
end RB.F
namespace RB.F
open PySem PySem.Spec PyProof.Rows L2 RB
section
variable {G : Glob} {X : Cx} {W : WX} {n k : Nat} {pins : List (Addr × Obj)} {σ : L2.St} {H : Hp} {s : Shared} {w : Wd} {S : Store}
structure EqA (G : Glob) (X : Cx) (n : Nat) (cs : List String) (subs : List (String × String)) (c : String) (mf : FD) : Prop where
  one : EqC G X n c mf
  any : ∀ C, G.cls c = some C → anyB X.K C = true
  low : ∀ c2 ∈ cs, c ≠ c2 → ∀ C C2, G.cls c = some C → G.cls c2 = some C2 → subBel X.K C2 C (decide ((c2, c) ∈ subs)) = true
variable {a b : Expr} {pos : Pos} {f1 f2 : FE}
theorem rt_cmpX {op : CmpOp} {f : P2} (ho : OpX G X W (compareOp op) f) (ha : RE G X W a f1) (hb : RE G X W b f2) (hm : behindInMarks op b = false) : RT G X W (.Compare a [op] [b] pos) (wTest (wBin f f1 f2)) := by
  refine ⟨⟨fun pins s σ H Q I ⟨w, S, r, ok, en, q⟩ => ?_⟩, lf_mon _⟩
  refine wpAny_isTrue_Compare1 (wpAny_mono (binX (Q := fun z H' => ∃ b, z = .bl b ∧ Q b H') ho ha hb I ⟨w, S, r, ok, en, ?_⟩) (fun v s1 h1 => wpAny_mono h1 (fun u s2 h2 => wpAny_mono h2 (fun c s3 h3 => ?_) fun _ _ z => z) fun _ _ z => z) fun _ _ z => z) hm
  · have q : out (wTest (wBin f f1 f2) r S) (Qt G w H Q) (Qx G w H fun c d H' => W c d σ H') := q
    unfold wTest at q
    rw [out_bind] at q
    refine out_mono q (fun d S1 z v w' H' x1 k1 rd => ?_) fun _ _ z => z
    split at z
    · rename_i b
      exact ⟨b, rep_bl.mp rd, z w' H' x1 k1⟩
    · exact z.elim
  · obtain ⟨z, H3, I3, r3, b, e, q3⟩ := h3
    subst e
    cases r3
    exact wpAny_truthy_bool ⟨H3, I3, q3⟩
end
end RB.F
namespace RB.F
open PySem PySem.Spec PyProof.Rows L2 RB
abbrev Glob.two (G : Glob) : Glob := { G with cels := true }
theorem fn_two {G : Glob} {P : Program} {w : World} {mg : Str → Option Value} {base : Heap} {k : Nat} {f : Addr} {fd : FuncData} {ps : List Str} {m : FD} (h1 : Glob.one G = G) (F : FnG G P w mg base k f fd ps (spF m)) : FnG (Glob.two G) P w mg base k f fd ps (spF (liftM m)) :=
  fn_lift (G := Glob.two G) (show FnG (Glob.one G) P w mg base k f fd ps (spF m) by rw [h1]; exact F)
section
variable {G : Glob} {X : Cx} {W : WX} {n k : Nat} {f Cc : Addr} {fd : FuncData} {ps ks : List Str} {mf : FD} {gD : List D → List D → List D} {x : Str} {p pos : Pos} {e : Expr} {es : List Expr} {kws : List Keyword} {fa fk : FA} {c : String}
theorem cxg_of2 (C : CxG (Glob.two G) X W n) : CxG G X W n := ⟨C.hK, C.tk, C.rm, C.gd, C.calm⟩
theorem repDs_split {w : Wd} : ∀ {vs us : List V} {ds : List D}, RepDs G w (vs ++ us) ds → RepDs G w vs (ds.take vs.length) ∧ RepDs G w us (ds.drop vs.length)
  | [], us, ds, h => ⟨by simp only [List.length_nil, List.take_zero]; trivial, by simpa using h⟩
  | v :: vs, us, [], h => h.elim
  | v :: vs, us, d :: ds, h => by
    obtain ⟨h1, h2⟩ := repDs_split (vs := vs) (us := us) (ds := ds) h.2
    exact ⟨⟨h.1, h1⟩, h2⟩
def mkCore (c : String) (mf : FD) (q : Nat) (gD : List D → List D → List D) : FD := fun zs S => mkF (mf (gD (.cell S.length :: zs.take q) (zs.drop q)) (S ++ [.obj c [] []])) S.length
def wMakeL (c : String) (mf : FD) (q m : Nat) (gD : List D → List D → List D) (fa fk : FA) (r : Rho) (S : Store) : O D := (fa r S).bind fun ds S1 => (fk r S1).bind fun es S2 => if decide (ds.length = q) && decide (es.length = m) then lift0 (mkCore c mf q gD) (ds ++ es) S2 else .bad
theorem mkCore_in {q : Nat} {zs : List D} {S : Store} {Q : DK} {E : EK} (h : out (mkCore c mf q gD zs S) Q E) : dMake c (spF mf) (fun d => gD (d :: zs.take q) (zs.drop q)) S Q E := by
  unfold mkCore at h
  unfold dMake spF
  cases e : mf (gD (.cell S.length :: zs.take q) (zs.drop q)) (S ++ [.obj c [] []]) with
  | ok d S3 =>
    rw [e] at h
    unfold mkF at h
    split at h
    · rename_i e2
      cases e2
      split at h
      · rename_i e3
        refine ⟨rfl, ?_⟩
        try rw [e3]
        exact h
      · exact h.elim
    · rename_i e2; cases e2
    · exact h.elim
  | ex y S3 => rw [e] at h; exact h
  | bad => rw [e] at h; exact h.elim
theorem make_low2 {w : Wd} {S : Store} {H : Hp} {Q : VK} {E : XK} {y dx : Addr} {vs zs : List V} {ds es : List D} {g : List V → List V → List V} (h1 : Glob.one G = G) (nc : G.cels = false) (hc : G.cls c = some Cc) (hi : G.isE c = false) (k0 : Wok (Glob.two G) w S H) (ny : H y = none) (nd : H dx = none) (ne : dx ≠ y)
    (r1 : RepDs (Glob.two G) w vs ds) (r2 : RepDs (Glob.two G) w zs es) (hr : ∀ w vs zs ds es, RepDs G w vs ds → RepDs G w zs es → RepDs G w (g vs zs) (gD ds es)) {q : Nat} (hq : ds.length = q)
    (h : out (lift0 (mkCore c mf q gD) (ds ++ es) S) (Qv (Glob.two G) w H Q) (Qx (Glob.two G) w H E)) : spV G (spF mf) (g (.ref y :: vs) zs) (L2.upd (L2.upd H dx (.own y)) y (.ins Cc dx [])) (fun v H2 => v = .non ∧ Q (.ref y) H2) E := by
  have sv : spV (Glob.one (Glob.two G)) (spF (mkCore c mf q gD)) (vs ++ zs) H Q E := lift0_in k0 (r1.append r2) h
  rw [show Glob.one (Glob.two G) = G from h1] at sv
  obtain ⟨w1, S1, d1, k1, rd, q1⟩ := sv
  have lv : vs.length = q := by rw [r1.length, hq]
  obtain ⟨ra, rb⟩ := repDs_split rd
  rw [lv] at ra rb
  exact make_low nc (spF_mon mf) hc hi k1 ny nd ne (dd := fun d => gD (d :: d1.take q) (d1.drop q)) (fun w' x' ry => hr w' _ _ _ _ ⟨ry, ra.mono x'⟩ (rb.mono x')) (mkCore_in q1)
theorem re_make2 {q : Nat} (h1 : Glob.one G = G) (nc : G.cels = false) (C : CxG (Glob.two G) X W n) (M : Mk X.K Cc f) (F : FnG G X.prog X.w X.mg X.base k f fd ps (spF mf)) (hk : k + 1 ≤ n) (hc : G.cls c = some Cc) (hi : G.isE c = false) (hg : Gl X x) (hm : X.mg x = some (.ref Cc)) (hb : Bd G X.K fd ps (q + 1) [] gD) (ha : RA (Glob.two G) X W (e :: es) fa)
    (hdb : (x == ("__debug__" : Str)) = false := by decide) (he : starEach (e :: es) X.env = (false, eval e X.env) :: starEach es X.env := by rfl) (hpl : (backTo pos (starEach es X.env)).any (·.1) = false := by rfl) : RE (Glob.two G) X W (.Call (.Name x p) (e :: es) [] pos) (wMakeL c mf q 0 gD fa wNil) := by
  obtain ⟨g, gV, hb, hr⟩ := hb
  refine ⟨⟨fun pins s σ H Q J ⟨w, S, r, ok, en, q0⟩ => ?_⟩, lf_mon _⟩
  have q0 : out (wMakeL c mf q 0 gD fa wNil r S) (Qv (Glob.two G) w H Q) (Qx (Glob.two G) w H fun c d H' => W c d σ H') := q0
  unfold wMakeL at q0
  rw [out_bind] at q0
  refine wpAny_Call_Name_kw (ld_glob J hg hm ?_ hdb)
  have h2 : tMa (Glob.two G) W (lf fa) σ H fun vs H2 => vs.length = q ∧ ∀ y dx, H2 y = none → H2 dx = none → dx ≠ y → spV G (spF mf) (gV (.ref y :: vs) []) (L2.upd (L2.upd H2 dx (.own y)) y (.ins Cc dx [])) (fun v H3 => v = .non ∧ Q (.ref y) H3) fun c d H' => W c d σ H' := by
    refine ⟨w, S, r, ok, en, out_mono q0 (fun ds S1 z vs w1 H1 x1 k1 r1 => ?_) (fun _ _ z => z)⟩
    rw [out_bind] at z
    have z : out (if decide (ds.length = q) && decide (([] : List D).length = 0) then lift0 (mkCore c mf q gD) (ds ++ []) S1 else .bad) _ _ := z
    split at z
    · rename_i hl
      simp only [Bool.and_eq_true, decide_eq_true_eq] at hl
      refine ⟨by rw [r1.length, hl.1], fun y dx ny nd ne => ?_⟩
      exact make_low2 (zs := []) (es := []) h1 nc hc hi k1 ny nd ne r1 trivial hr hl.1 (out_mono z (fun _ _ v => v.ext x1) (fun _ _ v => v.ext x1))
    · exact z.elim
  refine PySem.W.callWith_K (h₀ := X.base) J.ok.mod.kin M.kp (thn (ha.pe.run pos pins s σ H _ J h2) fun us s1 ⟨vs, H1, J1, rv, l1, q1⟩ => ⟨J1.kIn, ?_⟩) he hpl
  exact run_mk (ks := []) (ws := []) (zs := []) (cxg_of2 C) M F hk hb J1 rv .nil l1 rfl q1
theorem re_makeK02 (h1 : Glob.one G = G) (nc : G.cels = false) (C : CxG (Glob.two G) X W n) (M : Mk X.K Cc f) (F : FnG G X.prog X.w X.mg X.base k f fd ps (spF mf)) (hk : k + 1 ≤ n) (hc : G.cls c = some Cc) (hi : G.isE c = false) (hg : Gl X x) (hm : X.mg x = some (.ref Cc)) (hb : Bd G X.K fd ps 1 ks gD) (hkw : RK (Glob.two G) X W kws fk)
    (hall : (backToKw pos (keywordEach kws X.env)).all (·.1.isSome) = true := by rfl) (hks : (backToKw pos (keywordEach kws X.env)).filterMap (·.1) = ks := by rfl) (hdb : (x == ("__debug__" : Str)) = false := by decide)
    (hpl : ((backTo pos (starEach [] X.env)).any (·.1) || (backToKw pos (keywordEach kws X.env)).any (·.1.isNone)) = false := by rfl) : RE (Glob.two G) X W (.Call (.Name x p) [] kws pos) (wMakeL c mf 0 ks.length gD wNil fk) := by
  obtain ⟨g, gV, hb, hr⟩ := hb
  refine ⟨⟨fun pins s σ H Q J ⟨w, S, r, ok, en, q0⟩ => ?_⟩, lf_mon _⟩
  have q0 : out ((fk r S).bind fun es S2 => if decide (([] : List D).length = 0) && decide (es.length = ks.length) then lift0 (mkCore c mf 0 gD) ([] ++ es) S2 else .bad) (Qv (Glob.two G) w H Q) (Qx (Glob.two G) w H fun c d H' => W c d σ H') := q0
  rw [out_bind] at q0
  refine wpAny_Call_Name_kw (ld_glob J hg hm ?_ hdb)
  have h2 : tMa (Glob.two G) W (lf fk) σ H fun zs H2 => zs.length = ks.length ∧ ∀ y dx, H2 y = none → H2 dx = none → dx ≠ y → spV G (spF mf) (gV [.ref y] zs) (L2.upd (L2.upd H2 dx (.own y)) y (.ins Cc dx [])) (fun v H3 => v = .non ∧ Q (.ref y) H3) fun c d H' => W c d σ H' := by
    refine ⟨w, S, r, ok, en, out_mono q0 (fun es' S2 u zs w2 H2 x2 k2 r2 => ?_) (fun _ _ u => u)⟩
    split at u
    · rename_i hl
      simp only [Bool.and_eq_true, decide_eq_true_eq] at hl
      refine ⟨by rw [r2.length, hl.2], fun y dx ny nd ne => ?_⟩
      exact make_low2 (vs := []) (ds := []) h1 nc hc hi k2 ny nd ne trivial r2 hr rfl (out_mono u (fun _ _ v => v.ext x2) (fun _ _ v => v.ext x2))
    · exact u.elim
  refine PySem.W.callWith_KW0 (h₀ := X.base) J.ok.mod.kin M.kp hall ?_ hpl
  refine thn (hkw.pk.run pos pins s σ H _ J h2) fun ws s2 ⟨zs, H2, J2, rz, l2, q2⟩ => ⟨J2.kIn, ?_⟩
  rw [hks]
  exact run_mk (us := []) (vs := []) (m := 0) (cxg_of2 C) M F hk hb J2 .nil rz rfl l2 q2
end
end RB.F
namespace GQ
open PySem PySem.SeqAt
section
variable {prog : Program} {w : World} {A : Around} {R : Result → Shared → Prop} {l : Addr}
variable {E : Value → Shared → Prop} {s : Shared}
end
end GQ
namespace RB.F
open PySem PySem.Spec PyProof.Rows L2 RB
section
variable {G : Glob} {X : Cx} {W : WX} {n : Nat}
end
end RB.F
namespace RB
open PySem PySem.Spec PyProof.Rows L2 StX
structure FnVK (G : Glob) (P : Program) (w : World) (mg : Str → Option Value) (base : Heap) (k : Nat) (f : Addr) (ks : List Str) (sp : DSp) : Prop where
  mono : DMon sp
  run : ∀ (A : Around) (outer : List Env) (s : Shared) (H : Hp) (us ws : List Value) (vs zs : List V) (Q : VK) (E : XK), Room k A → A.guards = some [] → Env0 P w G.K mg base A outer s H → Vals vs us → Vals zs ws → zs.length = ks.length → spV G sp (zs ++ vs) H Q E →
    codeAny (model P w) A (.call (.ref f) ⟨us, ks.zip ws⟩) (CR (L2.CX P w) outer P w H s Q E) s
section
variable {G : Glob} {X : Cx} {W : WX} {n k : Nat} {f : Addr} {ks : List Str} {sp : DSp}
end
end RB
namespace RB.F
open PySem PySem.Spec PyProof.Rows L2 RB StX
section
variable {G : Glob} {X : Cx} {W : WX} {n k m : Nat} {f : Addr} {ks : List Str} {x : Str} {p pos : Pos} {e : Expr} {es : List Expr} {kws : List Keyword} {mf : FD} {fa fk : FA}
end
section
variable {G : Glob} {P : Program} {w : World} {mg : Str → Option Value} {base : Heap} {x qual : Str} {params : Arguments} {body : List Stmt} {scope : Scope} {kws : List (Str × V)} {fa : Addr} {fd : FuncData} {N ps : List Str} {pv : Str} {k : Nat} {f : FS}
end
end RB.F
namespace RB
open PySem PySem.Spec PyProof.Rows L2
end RB
namespace RB.F
open PySem PySem.Spec PyProof.Rows L2 RB StX
section
variable {G : Glob} {X : Cx} {W : WX} {e e2 : Expr} {elts : List Expr} {kk : Nat} {p pos tpos : Pos} {fa : FA} {r : Rho} {S : Store}
end
end RB.F
namespace RB.F
open PySem PySem.Spec PyProof.Rows L2 RB
def mcN (N : List Str) (fc : (Store → O D) → FS) (act : Store → O D) (S : Store) : O D := finN (fc act (startR N [.fn]) S)
section
variable {G : Glob} {X : Cx} {W : WX} {n : Nat}
theorem re_lamN {c P g : Addr} {x a : Str} {pg : Arguments} {bg : List Stmt} {sg : Scope} {fd : FuncData} {Ng : List Str} {params : Arguments} {body : Expr} {scope : Scope} {k k2 : Nat} {fb : FE} {fc : (Store → O D) → FS} {p lpos pos : Pos}
    (C : CxG G X W n) (hg : Gl X x) (hm : X.mg x = some (.ref g)) (F : FunD G.K x x pg bg sg [] [] g fd) (hb : Binds G.K fd [a] []) (Sg : FnScope Ng [a] sg) (hNg : Ng[0]? = some a) (hva : Vis sg a) (hG : CatchR G X.prog X.w X.mg X.base g x a Ng sg bg k2 k fc) (hk : k2 + 1 ≤ n)
    (TB : LamX.TabB X.base X.mg c P) (hcode : X.env.code = .ref c) (hmT : (P, X.env.qual ++ "<lambda>") ∈ G.tabs) (hu : ∀ p ∈ G.tabs, p.1 = P → p.2 = X.env.qual ++ "<lambda>") (L : LamX.LamS X.env.scope scope) (hdef : defaultsOf params X.env = ([], []))
    (hbind : ∀ (q : Str) (cl : List (Str × Addr)) (pm cv ctv : Value), bindArgs (PySem.W.kla_fn "<lambda>" q params body scope cl pm cv ctv) ⟨[], []⟩ = pure [])
    (hbody : ∀ (A : Around) (outer : List Env) (s : Shared) (H : Hp) (E : XK) (f c' : Addr), CxG G (LamX.lamCx X A outer s H E scope f c') (fun cls d _ H' => E cls d H') k → RE G (LamX.lamCx X A outer s H E scope f c') (fun cls d _ H' => E cls d H') body fb)
    (hdb : (x == ("__debug__" : Str)) = false := by decide) (hd : (a == ("__debug__" : Str)) = false := by decide) (hcd : (a == ("__classdict__" : Str)) = false := by decide) :
    RE G X W (.Call (.Name x p) [.Lambda params body scope lpos] [] pos) (wLam (mcN Ng fc) fb) := by
  refine ⟨⟨fun pins s σ H Q I ⟨w, S, r, ok, en, q⟩ => ?_⟩, lf_mon _⟩
  have q : out (wLam (mcN Ng fc) fb r S) (Qv G w H Q) (Qx G w H fun c d H' => W c d σ H') := q
  have q := out_noFn q
  have hK := C.hK
  obtain ⟨⟨ps, hP, ht, ha⟩, _, _⟩ := ok.tb.at_ _ hmT
  refine wpAny_Call_Name_kw (ld_glob I hg hm ?_ hdb)
  refine PySem.W.callWith_K (h₀ := X.base) I.ok.mod.kin (by rw [hK]; exact F.kp) ?_ (by rfl) (by rfl)
  show wpAny _ _ (spliced ((false, eval (.Lambda params body scope lpos) X.env) :: backTo pos (starEach [] X.env))) _ _ s
  refine Calls.spliced_cons (lam_make3 I TB hcode hP ht (fun pos cv hc => let ⟨c, e, z⟩ := ha pos cv hc; ⟨c, e, ok.sub _ _ z⟩) hdef (L.has I.ok) fun f c' pm' ctv H1 s' I1 hH hf hfn hfr => ?_)
  refine Calls.spliced_nil ⟨I1.kIn, ?_⟩
  obtain ⟨w1, k1, x1, hco⟩ := lam_world ok hmT hu hP hH
  have k1' : Wok (G.at f w1.I w1.as) w1 S H1 := wok_at k1 ⟨Same.refl _, [], by simp⟩
  obtain ⟨oc, od, dV, kV, doc, pm, an, cdv, ct, osl, efd, lk, hcd', _, _⟩ := F.ex
  subst efd
  have rc : codeAny (model X.prog X.w) X.A (.call (.ref g) ⟨[.ref f], []⟩) (CR (L2.CX X.prog X.w) X.stack X.prog X.w H1 s' Q (fun c d H' => W c d σ H')) s' := by
    rw [← hK] at lk hcd' hb
    refine LamX.run_ofS (N := Ng) (ps := [a]) (us := [.ref f]) (vs := [.ref f]) lk hcd' Sg (C.rm.mono hk) I1.env0 (hb s' [.ref f] I1.kIn rfl) (.cons rfl .nil) rfl fun hr' => ?_
    have CZ : CxG (G.at f w1.I w1.as) (cxOf (L2.CX X.prog X.w) X.prog X.w X.K X.mg X.base Ng x sg g cdv X.A X.stack s' H1 (fun c d H' => W c d σ H')) (fun cls d _ H' => W cls d σ H') k2 := ⟨hK, takes_of rfl rfl rfl rfl, hr', C.gd, rfl⟩
    have hG' : CatchR G X.prog X.w X.mg X.base g x a Ng sg bg k2 k fc := hG
    unfold CatchR at hG'
    rw [← hK] at hG'
    have B := hG' f w1.I w1.as cdv X.A X.stack s' H1 (fun c d H' => W c d σ H') (fun S => fb r S) CZ fun W1 pn xe n1 p1 p2 C1 hk1 =>
      re_act (i := 0) hK I1 L hf hfn hfr (hbind _ _ _ _ _) k1 (en.mono x1) hco (fun A outer s H E CL => hbody A outer s H E f c' CL) C1 hk1 hNg hva hd hcd
    refine ⟨_, B.ps, w1, S, startR Ng [.fn], k1', start_ok (ds := [.fn]) (vs := [.ref f]) ⟨rfl, trivial⟩, ?_⟩
    have low : lfS (fc fun S => fb r S) (endsN (Qv (G.at f w1.I w1.as) w1 H1 Q) (Qx (G.at f w1.I w1.as) w1 H1 fun c d H' => W c d σ H')) (startR Ng [.fn]) S := by
      have q3 : out (finN ((fc fun S => fb r S) (startR Ng [.fn]) S)) (Qv (G.at f w1.I w1.as) w1 H1 Q) (Qx (G.at f w1.I w1.as) w1 H1 fun c d H' => W c d σ H') :=
        out_mono q (fun d S' ⟨hd, z⟩ v w' H' x k rd => z v w' H' (x1.trans x) (wok_back k (un_trans k1.tb.un ⟨x.I, x.as⟩)) ((repD_at hd).mp rd)) fun y S' z c d w' H' x k rx => z c d w' H' (x1.trans x) (wok_back k (un_trans k1.tb.un ⟨x.I, x.as⟩)) (repX_at.mp rx)
      show outS ((fc fun S => fb r S) (startR Ng [.fn]) S) _
      cases e : (fc fun S => fb r S) (startR Ng [.fn]) S with
      | nx r S => rw [e] at q3; exact q3
      | rt d S => rw [e] at q3; exact q3
      | bk r S => rw [e] at q3; exact q3
      | ct r S => rw [e] at q3; exact q3
      | ex r x S => rw [e] at q3; exact q3
      | bad => rw [e] at q3; exact q3
    exact B.mono (endsN (Qv (G.at f w1.I w1.as) w1 H1 Q) (Qx (G.at f w1.I w1.as) w1 H1 fun c d H' => W c d σ H')) _ _ _ ⟨fun r S' q τ w' H' x k en => q .non w' H' x k (rep_non.mpr rfl), fun d S' q => q, fun _ _ z => z.elim, fun _ _ z => z.elim, fun r y S' q τ c d w' H' x k en rx => q c d w' H' x k rx⟩ low
  refine wpAny_call (codeAny_mono rc fun r s2 hq => ?_)
  cases r with
  | error e => exact passAt C.tk σ pins H1 s' e s2 I1 hq
  | ok fl =>
    cases fl with
    | ret u => exact I1.after hq
    | next => exact False.elim hq
    | brk => exact False.elim hq
    | cont => exact False.elim hq
end
theorem isT_two {G : Glob} {K : PySem.W.Frag} {ts : List String} {u : Value} {t : String → Bool} (h : IsT G K ts u t) : IsT (Glob.two G) K ts u t := ⟨h.own, h.blt⟩
end RB.F
namespace RB.F
open PySem PySem.Spec PyProof.Rows L2 RB
def lendP (S : Store) (p : P) : Option (P × List Nat) := match borrow S (nrm (.p p)) with
  | some (.p q, ns) => some (q, ns)
  | _ => none
def lendPs (S : Store) : List P → Option (List P × List Nat)
  | [] => some ([], [])
  | p :: ps => match lendP S p, lendPs S ps with
    | some (q, ns), some (qs, ms) => some (q :: qs, ns ++ ms)
    | _, _ => none
def borrowT (S : Store) (d : D) : Option (D × List Nat) := match d with
  | .p (.tup ps) => (match lendPs S ps with
    | some (qs, ns) => some (.p (.tup qs), ns)
    | none => none)
  | d => borrow S d
section
variable {G : Glob} {w : Wd} {S : Store} {H : Hp}
theorem lendP_ok {p q : P} {ns : List Nat} {v : V} (k : Wok G w S H) (r : Rep G w v p) (h : lendP S p = some (q, ns)) : ∃ bs, Lent w H bs ∧ (ns = [] → bs = []) ∧ ∀ bs2 as2, (∀ b ∈ bs, b ∈ bs2) → Rep (Glob.one G) ⟨lent w H bs2, as2, w.ts⟩ v q := by
  unfold lendP at h
  split at h
  · rename_i q' ns' e
    cases h
    exact borrow_ok k (repD_nrm (show RepD G w v (.p p) from r)) e
  · cases h
theorem lendPs_ok (k : Wok G w S H) : ∀ {ps qs : List P} {ns : List Nat} {vs : List V}, Reps G w vs ps → lendPs S ps = some (qs, ns) → ∃ bs, Lent w H bs ∧ (ns = [] → bs = []) ∧ ∀ bs2 as2, (∀ b ∈ bs, b ∈ bs2) → Reps (Glob.one G) ⟨lent w H bs2, as2, w.ts⟩ vs qs
  | [], qs, ns, vs, r, h => by
    cases h
    simp only [Reps] at r
    subst r
    exact ⟨[], fun b m => (by cases m), fun _ => rfl, fun _ _ _ => Reps.nil⟩
  | p :: ps, qs, ns, vs, r, h => by
    simp only [Reps] at r
    obtain ⟨v, vs', rfl, r1, r2⟩ := r
    unfold lendPs at h
    split at h
    · rename_i q n1 qs' n2 e1 e2
      cases h
      obtain ⟨b1, l1, z1, q1⟩ := lendP_ok k r1 e1
      obtain ⟨b2, l2, z2, q2⟩ := lendPs_ok k r2 e2
      refine ⟨b1 ++ b2, fun b m => (List.mem_append.mp m).elim (l1 b) (l2 b), fun z => ?_, fun bs2 as2 hb => Reps.cons (q1 bs2 as2 fun b m => hb b (List.mem_append_left _ m)) (q2 bs2 as2 fun b m => hb b (List.mem_append_right _ m))⟩
      obtain ⟨y1, y2⟩ := List.append_eq_nil_iff.mp z
      rw [z1 y1, z2 y2]; rfl
    · cases h
theorem borrowT_ok {d e : D} {ns : List Nat} {v : V} (k : Wok G w S H) (r : RepD G w v d) (h : borrowT S d = some (e, ns)) : ∃ bs, Lent w H bs ∧ (ns = [] → bs = []) ∧ ∀ bs2 as2, (∀ b ∈ bs, b ∈ bs2) → RepD (Glob.one G) ⟨lent w H bs2, as2, w.ts⟩ v e := by
  unfold borrowT at h
  split at h
  · rename_i ps
    split at h
    · rename_i qs ns' e1
      cases h
      obtain ⟨a, vs, rfl, hs, rs⟩ := rep_tup.mp r
      obtain ⟨bs, l, z, q⟩ := lendPs_ok k rs e1
      exact ⟨bs, l, z, fun bs2 as2 hb => rep_tup.mpr ⟨a, vs, rfl, Same.tup (lent_up k) hs, q bs2 as2 hb⟩⟩
    · cases h
  · exact borrow_ok k r h
def liftT (m : FD) (d : D) (S : Store) : O D := match borrowT S d with
  | some (e, bs) => back0 bs S (m [e] [])
  | none => .bad
theorem liftT_in {m : FD} {d : D} {v : V} {Q : VK} {E : XK} (k : Wok G w S H) (r : RepD G w v d) (q : out (liftT m d S) (Qv G w H Q) (Qx G w H E)) : spV (Glob.one G) (spF m) [v] H Q E := by
  unfold liftT at q
  split at q
  · rename_i es ns hb
    obtain ⟨bs, l, z, hr⟩ := borrowT_ok k r hb
    refine ⟨⟨lent w H bs, [], w.ts⟩, [], [es], lent_wok0 k l, ⟨hr bs [] (fun _ h => h), trivial⟩, ?_⟩
    have em : ns.isEmpty = true → bs = [] := fun e => z (List.isEmpty_iff.mp e)
    show out (m [es] []) _ _
    cases ho : m [es] [] with
    | bad => rw [ho] at q; exact q.elim
    | ex y S1 =>
      rw [ho] at q
      unfold back0 at q
      dsimp only at q
      split at q
      · rename_i c
        intro cls dd w' H' x k' rx
        exact q cls dd _ H' (lent_ext k l (fun _ z => (by cases z)) x) (back_wok0 k l x k') (RepX.fromOne (lent_lists l x) (c.imp em id) rx)
      · exact q.elim
    | ok d S1 =>
      rw [ho] at q
      unfold back0 at q
      split at q
      · rename_i v S2 e
        cases e
        split at q
        · rename_i c
          intro u w' H' x k' rv
          exact q u _ H' (lent_ext k l (fun _ z => (by cases z)) x) (back_wok0 k l x k') (Rep.fromOne (lent_lists l x) (c.imp em id) rv)
        · exact q.elim
      · rename_i ps e
        cases e
        split at q
        · rename_i c
          intro u w' H' x k' rv
          obtain ⟨p, rfl, hp⟩ := rep_cell.mp rv
          have hw := back_wok0 k l x k'
          obtain ⟨nI, us, hv, rs⟩ := k'.cells 0 _ _ rfl hp
          have pn : p ∉ w.as := fun mm => by
            obtain ⟨o, hh⟩ := k.cellThere mm
            exact (x.fresh p o hh (by simp)).1 (List.mem_of_getElem? hp)
          have pH : H p = none := by
            cases hh : H p with
            | none => rfl
            | some o => exact absurd (List.mem_of_getElem? hp) (x.fresh p o hh (by simp)).1
          have nl : lessI w'.I bs p = none := by
            unfold lessI
            split
            · rfl
            · exact nI
          refine q (.ref p) _ H' ((lent_ext k l (fun _ z => (by cases z)) x).takeC pH) (hw.takeC hv nl pn (Reps.fromOne (lent_lists l x) (c.imp em id) rs)) ⟨p, rfl, ?_⟩
          show (w.as ++ [p])[S.length]? = some p
          rw [← k.len, List.getElem?_append_right (Nat.le_refl _)]
          simp
        · exact q.elim
      · rename_i e
        cases e
      · exact q.elim
  · exact q.elim
end
section
variable {G : Glob} {X : Cx} {W : WX} {e : Expr}
def envOf (r : Rho) (i : Nat) (d : D) : Rho := (r.map fun _ => none).set i (some d)
def lentF (f : FE) (r : Rho) (i : Nat) : FD := fun ds S => match ds with
  | [d] => f (envOf r i d) S
  | _ => .bad
def wLent (i : Nat) (f : FE) (r : Rho) (S : Store) : O D := match r[i]? with
  | some (some d) => liftT (lentF f r i) d S
  | _ => .bad
theorem env_lent {w1 : Wd} {σ : L2.St} {r : Rho} {i : Nat} {v : V} {d : D} (hl : r.length = σ.length) (hs : σ[i]? = some (some v)) (rd : RepD G w1 v d) : EnvOk G w1 σ (envOf r i d) := by
  refine ⟨by simp [envOf, hl], fun j d' h => ?_⟩
  unfold envOf at h
  by_cases c : i = j
  · subst c
    have hi : i < (r.map fun _ => (none : Option D)).length := by
      have := (List.getElem?_eq_some_iff.mp hs).1
      simp [hl, this]
    rw [List.getElem?_set_self hi] at h
    cases h
    exact ⟨v, hs, rd⟩
  · rw [List.getElem?_set_ne c, List.getElem?_map] at h
    cases hr : r[j]? with
    | none => rw [hr] at h; cases h
    | some y => rw [hr] at h; simp at h
theorem lent_low {i : Nat} {f : FE} {w : Wd} {S : Store} {H : Hp} {σ : L2.St} {r : Rho} {Q : VK} (h1 : Glob.one G = G) (k : Wok (Glob.two G) w S H) (en : EnvOk (Glob.two G) w σ r) (q : out (wLent i f r S) (Qv (Glob.two G) w H Q) (Qx (Glob.two G) w H fun c d H' => W c d σ H')) :
    ∃ w1 S1 r1, Wok G w1 S1 H ∧ EnvOk G w1 σ r1 ∧ out (f r1 S1) (Qv G w1 H Q) (Qx G w1 H fun c d H' => W c d σ H') := by
  unfold wLent at q
  split at q
  · rename_i d hd
    obtain ⟨v, hv, rv⟩ := en.at_ i d hd
    have sv := liftT_in k rv q
    rw [show Glob.one (Glob.two G) = G from h1] at sv
    obtain ⟨w1, S1, ds1, k1, rd, q1⟩ := sv
    match ds1, rd with
    | [d1], ⟨rd1, _⟩ => exact ⟨w1, S1, envOf r i d1, k1, env_lent en.len hv rd1, q1⟩
  · exact q.elim
theorem re_lent {i : Nat} {f : FE} (h1 : Glob.one G = G) (he : RE G X W e f) : RE (Glob.two G) X W e (wLent i f) :=
  ⟨PE.imp he.pe fun σ H Q ⟨w, S, r, ok, en, q⟩ => let ⟨w1, S1, r1, k1, en1, q1⟩ := lent_low h1 ok en q; ⟨w1, S1, r1, k1, en1, q1⟩, lf_mon _⟩
end
end RB.F
namespace RB.F
open PySem PySem.Spec PyProof.Rows L2 RB
section
open PySem.W
variable {prog : Program} {w : World} {A : Around} {E : Value → Shared → Prop} {s : Shared} {K : Frag} {C : Addr} {name : Str} {cd : ClassData}
variable {x y C' L f g : Addr} {h₀ : Heap} {m : Str → Option Value} {ox oy : Obj} {od od' : Option Obj}
end
section
variable {G : Glob} {X : Cx} {W : WX} {n k : Nat}
end
end RB.F
namespace GQ
open PySem PySem.SeqAt
open MeetsSeq MeetsSeq2 MeetsSeq3 SeqRoads2
section
variable {prog : Program} {w : World} {A : Around} {R : Result → Shared → Prop}
variable {E : Value → Shared → Prop} {s : Shared}
end
end GQ
namespace RB.F
open PySem PySem.Spec PyProof.Rows L2 RB
section
variable {G : Glob} {X : Cx} {W : WX} {n k : Nat}
end
end RB.F
namespace GQ
open PySem PySem.SeqAt
open MeetsSeq MeetsSeq2 MeetsSeq3 SeqRoads2
section
variable {prog : Program} {w : World} {A : Around} {E : Value → Shared → Prop} {s : Shared}
end
end GQ
namespace GQ
open PySem PySem.SeqAt
open MeetsSeq MeetsSeq2 MeetsSeq3 SeqRoads2
section
variable {prog : Program} {w : World} {A : Around} {R : Result → Shared → Prop}
theorem tuple_neJ (l b : Addr) (items items2 : Array Value) (n n2 : Nat) (dd dd2 : Option Addr) (sl sl2 : Array (Option Value)) (hsz : items.size = items2.size) (I : Nat → Shared → Prop)
    (turn : ∀ i (h1 : i < items.size) (h2 : i < items2.size) s, I i s → wpAny (model prog w) A.in1 (eqBool items[i] items2[i]) (fun r s' => r = true ∧ I (i + 1) s') (fun e s' => R (.error e) s') s)
    (fin : ∀ s, I items.size s → R (.ok (.ret (.bool false))) s) {s : Shared} (hl1 : s.heap.get? l = some { cls := .type "tuple", dict := dd, data := .seq items n, slots := sl }) (hb1 : s.heap.get? b = some { cls := .type "tuple", dict := dd2, data := .seq items2 n2, slots := sl2 }) (h : I 0 s) :
    wpAny (model prog w) A.in1 (Builtin.«tuple.__ne__» ⟨[.ref l, .ref b], []⟩) (FinOf prog w A R) (fun e s' => R (.error e) s') s := by
  have f2 := AutoSeq1.sub_tuple_tuple
  have zl : (items.toList.zip items2.toList).length = items.size := by simp [hsz]
  have start := h
  obtain ⟨hp, g, d, tk, os⟩ := s
  wp_walk using AutoSeq1.wpAny_loadPart' hl1, AutoSeq1.wpAny_loadPart' hb1, wpAny_forIn_list _ (fun rest q s' => q.1 = none ∧ ∃ i, rest = (items.toList.zip items2.toList).drop i ∧ i ≤ items.size ∧ I i s') _
  case turn =>
    rintro ⟨y, x⟩ rest q s' ⟨hq, i, hz, hi, hI⟩
    have lt : i < (items.toList.zip items2.toList).length := by
      rcases Nat.lt_or_ge i (items.toList.zip items2.toList).length with k | k
      · exact k
      · rw [List.drop_of_length_le k] at hz; cases hz
    have h1 : i < items.size := zl ▸ lt
    have h2 : i < items2.size := hsz ▸ h1
    rw [List.drop_eq_getElem_cons lt] at hz
    injection hz with e1 e2
    have hy : y = items[i] := by have := congrArg Prod.fst e1; simpa using this
    have hx : x = items2[i] := by have := congrArg Prod.snd e1; simpa using this
    subst hy hx
    refine wpAny_bind (wpAny_mono (turn i h1 h2 s' hI) (fun r s2 q2 => ?_) fun _ _ x => x)
    obtain ⟨hr, q2⟩ := q2
    subst hr
    wp_walk
    exact ⟨rfl, i + 1, e2, h1, q2⟩
  case fin =>
    rintro ⟨b1, b2⟩ s' ⟨hq, i, hz, hi, hI⟩
    simp only at hq
    subst hq
    have ge : items.size ≤ i := by
      rcases Nat.lt_or_ge i (items.toList.zip items2.toList).length with k | k
      · rw [List.drop_eq_getElem_cons k] at hz; cases hz
      · exact zl ▸ k
    have e : i = items.size := by omega
    have hR : R (.ok (.ret (.bool false))) s' := fin s' (e ▸ hI)
    wp_walk
    simpa [Builtin.Tuple.tupleCompareSizes, hsz] using hR
  case h => exact ⟨rfl, 0, rfl, Nat.zero_le _, start⟩
variable {E : Value → Shared → Prop} {s : Shared}
theorem rc_tupN {l b : Addr} {items items2 : Array Value} {Q : Value → Shared → Prop} (hsz : items.size = items2.size) (hu : A.units < cLine) (I : Nat → Shared → Prop)
    (hl : s.heap.IsTuple l items) (hb : s.heap.IsTuple b items2)
    (turn : ∀ i (h1 : i < items.size) (h2 : i < items2.size) s, I i s → wpAny (model prog w) A.in1 (eqBool items[i] items2[i]) (fun r s' => r = true ∧ I (i + 1) s') E s)
    (fin : ∀ s, I items.size s → Q (.bool false) s) (h : I 0 s) : wpAny (model prog w) A (richCompare .NotEq (.ref l) (.ref b)) Q E s := by
  obtain ⟨⟨c1, d1, da1, sl⟩, ho, e1, n, e2⟩ := id hl
  obtain ⟨⟨c2, d2, da2, sl2⟩, ho2, e3, n2, e4⟩ := id hb
  simp only at e1 e2 e3 e4
  subst e1 e2 e3 e4
  refine wpAny_richCompare_same_room (op := .NotEq) ⟨_, ho, rfl⟩ ⟨_, ho2, rfl⟩ F.slot_tuple_ne (call_here F.slot_tuple_ne ⟨_, ho, rfl⟩ F.entry_tuple_ne (F.args_tuple_ne_2 _ _) ?_) hu
  exact tuple_neJ (R := wants (fun v s' => v ≠ .notImplemented ∧ Q v s') E) l b items items2 n n2 d1 d2 sl sl2 hsz I turn (fun s' q => ⟨(fun x => nomatch x), fin s' q⟩) ho ho2 h
end
end GQ
namespace RB.F
open PySem PySem.Spec PyProof.Rows L2 RB
section
variable {G : Glob} {X : Cx} {W : WX} {n k : Nat}
end
end RB.F
namespace RB.F
open PySem PySem.Spec PyProof.Rows L2 RB
section
variable {G : Glob} {X : Cx} {W : WX} {n k : Nat} {pins : List (Addr × Obj)} {σ : L2.St} {H : Hp} {s : Shared} {w : Wd} {S : Store}
def EqOneA (tab : ITab) (subs : List (String × String)) (b : Bool) : P → P → Prop
  | .obj c1 n1 v1, .obj c2 n2 v2 => (∃ m1 m2, tab.lookup c1 = some m1 ∧ tab.lookup c2 = some m2 ∧ ∀ S, (if c1 ≠ c2 ∧ (c2, c1) ∈ subs then m2 [.p (.obj c2 n2 v2), .p (.obj c1 n1 v1)] S else m1 [.p (.obj c1 n1 v1), .p (.obj c2 n2 v2)] S) = .ok (.p (.bl b)) S) ∧ (b = true ∨ c1 ≠ c2 ∨ plainPs v1 = true ∧ plainPs v2 = true ∧ v1 ≠ v2)
  | _, _ => False
inductive EqRowA (tab : ITab) (subs : List (String × String)) : List P → List P → Bool → Prop
  | nil : EqRowA tab subs [] [] true
  | nilL {y : P} {ys : List P} : EqRowA tab subs [] (y :: ys) false
  | nilR {x : P} {xs : List P} : EqRowA tab subs (x :: xs) [] false
  | same {x y : P} {xs ys : List P} {b : Bool} (h : EqOneA tab subs true x y) (t : EqRowA tab subs xs ys b) : EqRowA tab subs (x :: xs) (y :: ys) b
  | diff {x y : P} {xs ys : List P} (h : EqOneA tab subs false x y) : EqRowA tab subs (x :: xs) (y :: ys) false
theorem EqOneA.fn {tab : ITab} {subs : List (String × String)} {x y : P} {b1 b2 : Bool} (h1 : EqOneA tab subs b1 x y) (h2 : EqOneA tab subs b2 x y) : b1 = b2 := by
  unfold EqOneA at h1
  split at h1
  · obtain ⟨⟨m1, m2, l1, l2, g1⟩, _⟩ := h1
    obtain ⟨⟨n1, n2, k1, k2, g2⟩, _⟩ := h2
    rw [l1] at k1
    rw [l2] at k2
    cases k1; cases k2
    have := (g1 []).symm.trans (g2 [])
    simpa using this
  · exact h1.elim
theorem EqRowA.fn {tab : ITab} {subs : List (String × String)} : ∀ {xs ys : List P} {b1 b2 : Bool}, EqRowA tab subs xs ys b1 → EqRowA tab subs xs ys b2 → b1 = b2
  | _, _, _, _, .nil, .nil => rfl
  | _, _, _, _, .nilL, .nilL => rfl
  | _, _, _, _, .nilR, .nilR => rfl
  | _, _, _, _, .same _ t, .same _ t2 => EqRowA.fn t t2
  | _, _, _, _, .same h _, .diff h2 => by have := h.fn h2; cases this
  | _, _, _, _, .diff h, .same h2 _ => by have := h.fn h2; cases this
  | _, _, _, _, .diff _, .diff _ => rfl
variable {a b : Expr} {pos : Pos} {f1 f2 : FE}
end
end RB.F
namespace RB
open PySem PySem.Spec PyProof.Rows L2
section
variable {G : Glob} {X : Cx} {W : WX} {pos : Pos}
end
end RB
namespace RB.F
open PySem PySem.Spec PyProof.Rows L2 RB
section
variable {G : Glob} {X : Cx} {W : WX} {pos : Pos}
end
end RB.F
namespace TxSet
open PySem PySem.Spec PyProof.Rows L2
def txt (e : Int × Value) : Str := match e.2 with | .str k _ => k | _ => ⟨#[]⟩
def GoodT (w : World) (e : Int × Value) : Prop := ∃ k t, e.2 = Value.str k t ∧ e.1 = hashStr w k
def SetT (w : World) (h : Heap) (a : Addr) (S : Str → Bool) (n : Nat) : Prop :=
  ∃ o es ep t, h.get? a = some o ∧ o.ExactSet ∧ o.data = .set es ep t ∧ (∀ e ∈ es.toList, GoodT w e) ∧ (es.toList.map txt).Nodup ∧ (∀ k, S k = true ↔ k ∈ es.toList.map txt) ∧
    es.size < scanBound ∧ t.fits es.size = true ∧ es.size = n ∧ Ris t.place.toList ∧ (w.params.followText "set-order" = true ∨ t.led = true)
section
variable {P : Program} {w : World} {h h' : Heap} {a : Addr} {S : Str → Bool} {n : Nat}
theorem SetT.at (R : SetT w h a S n) (k : ∀ o, h.get? a = some o → h'.get? a = some o) : SetT w h' a S n := by
  obtain ⟨o, es, ep, t, ho, r⟩ := R
  exact ⟨o, es, ep, t, k o ho, r⟩
end
section
variable {P : Program} {w : World} {A : Around} {E : Value → Shared → Prop} {s : Shared} {a : Addr} {S : Str → Bool} {n : Nat}
end
def SetTO (w : World) (a : Addr) (S : Str → Bool) (n : Nat) : HO := .ext fun h => SetT w h a S n
section
variable {X : Cx}
end
end TxSet
namespace TxSet
open PySem PySem.Spec PyProof.Rows L2
section
variable {P : Program} {w : World}
end
section
variable {prog : Program} {w : World} {A : Around} {R : Result → Shared → Prop} {s : Shared} {elt t0 i0 t1 i1 : Expr} {ifs0 ifs1 : List Expr} {scope : Scope} {pos : Pos} {it acc : Value} {env : Env}
end
section
variable {X : Cx}
end
section
variable {X : Cx}
end
end TxSet
namespace RB.F
open PySem PySem.Spec PyProof.Rows L2 RB TxSet
section
variable {G : Glob} {X : Cx} {W : WX}
def HasS (wd : World) (D : Addr) (acc : List Str) (w : Wd) (H : Hp) : Prop := (∃ n, n ≤ acc.length ∧ H D = some (SetTO wd D (fun j => decide (j ∈ acc)) n)) ∧ w.I D = none ∧ D ∉ w.as
variable {wd : World} {Da : Addr} {acc : List Str} {w w1 w2 w3 : Wd} {H H1 H2 H3 : Hp} {S S2 : Store}
theorem HasS.ext (h : HasS wd Da acc w H) (k : Wok G w S H) (x : Ext w H w2 H2) : HasS wd Da acc w2 H2 := by
  obtain ⟨⟨n, hn, e⟩, i, a⟩ := h
  exact ⟨⟨n, hn, x.frame Da _ e a (k.notTs e fun _ z => nomatch (show HO.ext _ = HO.tbl _ from z))⟩, (x.fresh Da _ e a).2 i, (x.fresh Da _ e a).1⟩
end
section
variable {G : Glob} {X : Cx} {W : WX}
end
end RB.F
namespace RB.F
open PySem PySem.Spec PyProof.Rows L2 RB
section
variable {G : Glob} {X : Cx} {W : WX} {e a b c : Expr} {pos : Pos}
def HasD (G : Glob) (Da : Addr) (acc : List (Key × P)) (w : Wd) (H : Hp) : Prop := (∃ kvs, H Da = some (.dK kvs) ∧ kvs.map (·.1) = acc.map (·.1) ∧ Reps G w (kvs.map (·.2)) (acc.map (·.2))) ∧ w.I Da = none ∧ Da ∉ w.as
theorem HasD.ext {Da : Addr} {acc : List (Key × P)} {w w2 : Wd} {H H2 : Hp} {S : Store} (h : HasD G Da acc w H) (k : Wok G w S H) (x : Ext w H w2 H2) : HasD G Da acc w2 H2 := by
  obtain ⟨⟨kvs, e, h1, h2⟩, i, a⟩ := h
  exact ⟨⟨kvs, x.frame Da _ e a (k.notTs e fun _ z => nomatch z), h1, h2.mono x.I x.as⟩, (x.fresh Da _ e a).2 i, (x.fresh Da _ e a).1⟩
end
end RB.F
namespace RB.F
open PySem PySem.Spec PyProof.Rows L2 RB
section
variable {G : Glob} {X : Cx} {W : WX}
end
end RB.F
namespace RB.F
open PySem PySem.Spec PyProof.Rows L2 RB TxSet
section
variable {G : Glob} {X : Cx} {W : WX}
def HasL (G : Glob) (Da : Addr) (acc : List P) (w : Wd) (H : Hp) : Prop := (∃ vs, H Da = some (.lst vs) ∧ Reps G w vs acc) ∧ w.I Da = none ∧ Da ∉ w.as
variable {Da : Addr} {acc : List P} {w w1 w2 w3 : Wd} {H H1 H2 H3 : Hp} {S S2 : Store}
theorem HasL.ext (h : HasL G Da acc w H) (k : Wok G w S H) (x : Ext w H w2 H2) : HasL G Da acc w2 H2 := by
  obtain ⟨⟨vs, e, r⟩, i, a⟩ := h
  exact ⟨⟨vs, x.frame Da _ e a (k.notTs e fun _ z => nomatch z), r.mono x.I x.as⟩, (x.fresh Da _ e a).2 i, (x.fresh Da _ e a).1⟩
end
section
variable {prog : Program} {w : World} {A : Around} {E : Value → Shared → Prop} {s : Shared}
end
section
variable {G : Glob} {X : Cx} {W : WX}
end
end RB.F
namespace RB.F
open PySem PySem.Spec PyProof.Rows L2 RB TxSet
section
variable {G : Glob} {X : Cx} {W : WX} {n : Nat}
end
end RB.F
namespace RB
open PySem PySem.Spec PyProof.Rows L2
section
variable {G : Glob} {X : Cx} {W : WX} {n k m : Nat} {f Cc : Addr} {fd : FuncData} {ps ks : List Str} {sp : DSp} {gD : List D → List D → List D} {x : Str} {p pos : Pos} {e : Expr} {es : List Expr} {kws : List Keyword} {ma mk : WA} {c : String}
def dMakeO (c : String) (sp : DSp) (ds : D → List D) (S : Store) (Q : DK) (E : EK) : Prop :=
  sp (ds (.cell S.length)) (S ++ [.obj c [] []]) (fun d S1 => d = .p .non ∧ Q (.cell S.length) S1) E
theorem make_lowO {w : Wd} {S : Store} {H : Hp} {Q : VK} {E : XK} {y dx : Addr} (F : DMon sp) (hc : G.cls c = some Cc) (hi : G.isE c = false) (k0 : Wok G w S H) (ny : H y = none) (nd : H dx = none) (ne : dx ≠ y) {dd : D → List D} {vs : List V} (rv : ∀ w', Ext w H w' (L2.upd (L2.upd H dx (.own y)) y (.ins Cc dx [])) → RepD G w' (.ref y) (.cell S.length) → RepDs G w' vs (dd (.cell S.length)))
    (q : dMakeO c sp dd S (Qv G w H Q) (Qx G w H E)) : spV G sp vs (L2.upd (L2.upd H dx (.own y)) y (.ins Cc dx [])) (fun v H2 => v = .non ∧ Q (.ref y) H2) E := by
  unfold dMakeO at q
  obtain ⟨k1, x1⟩ := k0.allocX (o := .own y) nd
  have ny1 : L2.upd H dx (.own y) y = none := by
    rw [upd_ne (Ne.symm ne)]
    exact ny
  have Iy : w.I y = none := k0.freeI ny
  obtain ⟨k2, x2⟩ := k1.allocC (o := .ins Cc dx []) (c := .obj c [] []) ny1 ⟨Iy, hi, Cc, dx, [], hc, upd_same, rfl, Reps.nil⟩
  have x12 := x1.trans x2
  have ry : RepD G ⟨w.I, w.as ++ [y], w.ts⟩ (.ref y) (.cell S.length) := ⟨y, rfl, by
    show (w.as ++ [y])[S.length]? = some y
    rw [← k0.len, List.getElem?_append_right (Nat.le_refl _)]
    simp⟩
  refine ⟨_, S ++ [.obj c [] []], dd (.cell S.length), k2, rv _ x12 ry, F _ _ _ _ _ _ (fun d S1 z v w3 H3 x3 k3 r3 => ?_) (fun z S1 u cl d w3 H3 x3 k3 r3 => ?_) q⟩
  · obtain ⟨rfl, z⟩ := z
    have x13 := x12.trans x3
    have ha : w3.as[S.length]? = some y := by
      obtain ⟨t, ht⟩ := x3.as
      rw [ht, List.getElem?_append_left (by show S.length < (w.as ++ [y]).length; rw [List.length_append, k0.len]; simp)]
      show (w.as ++ [y])[S.length]? = some y
      rw [← k0.len, List.getElem?_append_right (Nat.le_refl _)]
      simp
    exact ⟨rep_non.mp r3, z (.ref y) w3 H3 x13 k3 ⟨y, rfl, ha⟩⟩
  · exact u cl d _ H3 (x12.trans x3) k3 r3
theorem dMakeO_mono (hs : DMon sp) {c : String} {ds : D → List D} {S : Store} {Q Q' : DK} {E E' : EK} (hq : ∀ d S, Q d S → Q' d S) (hE : ∀ x S, E x S → E' x S) (h : dMakeO c sp ds S Q E) : dMakeO c sp ds S Q' E' := by
  unfold dMakeO at h ⊢
  exact hs _ _ _ _ _ _ (fun d S1 z => ⟨z.1, hq _ _ z.2⟩) hE h
def wMakeO (c : String) (sp : DSp) (n : Nat) (gD : List D → List D → List D) (ma : WA) : WE := fun r S Q E => ma r S (fun ds S1 => ds.length = n ∧ dMakeO c sp (fun d => gD (d :: ds) []) S1 Q E) E
theorem mon_makeO (hs : DMon sp) {c : String} {n : Nat} (ha : MonA ma) : Mon (wMakeO c sp n gD ma) := fun r S Q Q' E E' hq hE h =>
  ha _ _ _ _ _ _ (fun ds S1 z => ⟨z.1, dMakeO_mono hs hq hE z.2⟩) hE h
theorem re_makeO (C : CxG G X W n) (M : Mk X.K Cc f) (F : FnG G X.prog X.w X.mg X.base k f fd ps sp) (hk : k + 1 ≤ n) (hc : G.cls c = some Cc) (hi : G.isE c = false) (hg : Gl X x) (hm : X.mg x = some (.ref Cc)) (hb : Bd G X.K fd ps (m + 1) [] gD) (ha : RA G X W (e :: es) ma)
    (hdb : (x == ("__debug__" : Str)) = false := by decide) (he : starEach (e :: es) X.env = (false, eval e X.env) :: starEach es X.env := by rfl) (hpl : (backTo pos (starEach es X.env)).any (·.1) = false := by rfl) : RE G X W (.Call (.Name x p) (e :: es) [] pos) (wMakeO c sp m gD ma) := by
  obtain ⟨g, gV, hb, hr⟩ := hb
  refine ⟨⟨fun pins s σ H Q J ⟨w, S, r, ok, en, q⟩ => ?_⟩, mon_makeO F.mono ha.mono⟩
  refine wpAny_Call_Name_kw (ld_glob J hg hm ?_ hdb)
  have h1 : tMa G W ma σ H fun vs H2 => vs.length = m ∧ ∀ y dx, H2 y = none → H2 dx = none → dx ≠ y → spV G sp (gV (.ref y :: vs) []) (L2.upd (L2.upd H2 dx (.own y)) y (.ins Cc dx [])) (fun v H3 => v = .non ∧ Q (.ref y) H3) fun c d H' => W c d σ H' := by
    refine ⟨w, S, r, ok, en, ha.mono r S _ _ _ _ (fun ds S1 z vs w1 H1 x1 k1 r1 => ?_) (fun _ _ z => z) q⟩
    obtain ⟨l1, u⟩ := z
    refine ⟨by rw [r1.length, l1], fun y dx ny nd ne => ?_⟩
    exact make_lowO F.mono hc hi k1 ny nd ne (dd := fun d => gD (d :: ds) []) (fun w' x' ry => hr w' _ _ _ _ ⟨ry, r1.mono x'⟩ trivial) (dMakeO_mono F.mono (fun _ _ v => v.ext x1) (fun _ _ v => v.ext x1) u)
  refine PySem.W.callWith_K (h₀ := X.base) J.ok.mod.kin M.kp (thn (ha.pe.run pos pins s σ H _ J h1) fun us s1 ⟨vs, H1, J1, rv, l1, q1⟩ => ⟨J1.kIn, ?_⟩) he hpl
  exact run_mk (ks := []) (ws := []) (zs := []) C M F hk hb J1 rv .nil l1 rfl q1
end
section
variable {G : Glob} {X : Cx} {W : WX}
end
end RB
namespace RB.F
open PySem PySem.Spec PyProof.Rows L2 RB ClX
section
variable {G : Glob} {X : Cx} {W : WX} {n k : Nat} {o e value : Expr} {es : List Expr} {kws : List Keyword} {p pos tpos apos : Pos} {f : Str} {fo fv : FE} {fa fk : FA} {c : String} {mf : FD} {gD : List D → List D → List D} {q : Nat}
def mkOF (o : O D) (n : Nat) : O D := match o with
  | .ok (.p .non) S1 => .ok (.cell n) S1
  | .ex y S1 => .ex y S1
  | _ => .bad
theorem mkOF_ok {n : Nat} {S : Store} : mkOF (.ok (.p .non) S) n = .ok (.cell n) S := (rfl)
theorem mkOF_ex {n : Nat} {S : Store} {y : Exc} : mkOF (.ex y S) n = .ex y S := (rfl)
def mkOK (c : String) (mf : FD) (n : Nat) (gD : List D → List D → List D) (ds : List D) (S1 : Store) : O D := if decide (ds.length = n) then mkOF (mf (gD (.cell S1.length :: ds) []) (S1 ++ [.obj c [] []])) S1.length else .bad
theorem mkOK_e {ds : List D} {S : Store} : mkOK c mf q gD ds S = if decide (ds.length = q) then mkOF (mf (gD (.cell S.length :: ds) []) (S ++ [.obj c [] []])) S.length else .bad := (rfl)
def wMakeO (c : String) (mf : FD) (n : Nat) (gD : List D → List D → List D) (fa : FA) (r : Rho) (S : Store) : O D := (fa r S).bind (mkOK c mf n gD)
theorem wMakeO_e {r : Rho} {S : Store} : wMakeO c mf q gD fa r S = (fa r S).bind (mkOK c mf q gD) := (rfl)
theorem re_makeO {x : Str} {fI Cc : Addr} {fd : FuncData} {ps : List Str} (C : CxG G X W n) (M : Mk X.K Cc fI) (F : FnG G X.prog X.w X.mg X.base k fI fd ps (spF mf)) (hk : k + 1 ≤ n) (hc : G.cls c = some Cc) (hi : G.isE c = false) (hg : Gl X x) (hm : X.mg x = some (.ref Cc)) (hb : Bd G X.K fd ps (q + 1) [] gD) (ha : RA G X W (e :: es) fa)
    (hdb : (x == ("__debug__" : Str)) = false := by decide) (he : starEach (e :: es) X.env = (false, eval e X.env) :: starEach es X.env := by rfl) (hpl : (backTo pos (starEach es X.env)).any (·.1) = false := by rfl) : RE G X W (.Call (.Name x p) (e :: es) [] pos) (wMakeO c mf q gD fa) := RE.of (RB.re_makeO C M F hk hc hi hg hm hb ha hdb he hpl) fun r S Q E h => by
  unfold wMakeO at h
  rw [out_bind] at h
  refine out_mono h (fun ds S1 h => ?_) fun _ _ h => h
  unfold mkOK at h
  split at h
  · rename_i e1
    refine ⟨of_decide_eq_true e1, ?_⟩
    unfold dMakeO spF
    cases e : mf (gD (.cell S1.length :: ds) []) (S1 ++ [.obj c [] []]) with
    | ok d S3 =>
      rw [e] at h
      unfold mkOF at h
      split at h
      · rename_i e2
        cases e2
        exact ⟨rfl, h⟩
      · rename_i e2; cases e2
      · exact h.elim
    | ex y S3 => rw [e] at h; exact h
    | bad => rw [e] at h; exact h.elim
  · exact h.elim
def clmKW (mf : FD) (gD : List D → List D → List D) (q : Nat) (zs : List D) (S1 : Store) : O D := match zs.any isFn with
  | true => .bad
  | false => if decide (zs.length = q) then noFn (mf (gD [.fn] zs) S1) else .bad
theorem clmKW_e1 {p : P} {S : Store} : clmKW mf gD 1 [.p p] S = noFn (mf (gD [.fn] [.p p]) S) := (rfl)
def wClsMK (mf : FD) (gD : List D → List D → List D) (q : Nat) (fk : FA) (r : Rho) (S : Store) : O D := (fk r S).bind (clmKW mf gD q)
theorem wClsMK_e {r : Rho} {S : Store} : wClsMK mf gD q fk r S = (fk r S).bind (clmKW mf gD q) := (rfl)
theorem callwith_cmK {pins : List (Addr × Obj)} {σ : L2.St} {H : Hp} {s : Shared} {C g q : Addr} {Q : Value → Shared → Prop} {E : Value → Shared → Prop} {A : Around} (I : Inv X ((q, PySem.W.methodObj (.ref g) (.ref C)) :: pins) σ H s) (hb : X.base.get? q = none) (hf : PySem.W.fnIn X.K g = true)
    (hall : (backToKw pos (keywordEach kws X.env)).all (·.1.isSome) = true)
    (h : wpAny (model X.prog X.w) A (evalAll ((backToKw pos (keywordEach kws X.env)).map (·.2))) (fun ks s₂ => wpAny (model X.prog X.w) A (call (.ref q) [] (((backToKw pos (keywordEach kws X.env)).filterMap (·.1)).zip ks)) Q E s₂ ∧ PySem.W.MethP X.K q g (.ref C) s₂.heap) E s)
    (hpl : ((backTo pos (starEach [] X.env)).any (·.1) || (backToKw pos (keywordEach kws X.env)).any (·.1.isNone)) = false) :
    wpAny (model X.prog X.w) A (callWith pos (.ref q) [] (backTo pos (starEach [] X.env)) (backToKw pos (keywordEach kws X.env))) Q E s :=
  PySem.W.callWith_of hpl (PySem.W.keeps_M hf) (evalArgs_kw2_nil hall (thn h fun ks s2 z => ⟨z.2, z.1⟩))
theorem re_cmK {m : Str} {mc : Value} {C0 C1 p0 g : Addr} {fd : FuncData} {ps ks : List Str} {pl : Sem Bool} (C : CxG G X W n) (hC : C1 = C0) (ho : PE X o (tC (.ref C0))) (rd : CRead G.K C1 mc) (cm : CMet G.K C1 mc m p0 g) (F : FnG (G.at C0 G.I0 G.as0) X.prog X.w X.mg X.base k g fd ps (spF mf)) (hk : k ≤ n) (hb : Bd (G.at C0 G.I0 G.as0) G.K fd ps 1 ks gD) (hkw : RK G X W kws fk)
    (hall : (backToKw pos (keywordEach kws X.env)).all (·.1.isSome) = true := by rfl) (hks : (backToKw pos (keywordEach kws X.env)).filterMap (·.1) = ks := by rfl)
    (hpl : ((backTo pos (starEach [] X.env)).any (·.1) || (backToKw pos (keywordEach kws X.env)).any (·.1.isNone)) = false := by rfl)
    (hev : eval (.Call (.Attribute o m apos) [] kws pos) X.env = (do
      let ov ← eval o X.env
      standAt apos.atName
      let (f, first) ← holding [ov] (getMethod ov m pl)
      callWith pos f first (backTo pos (starEach [] X.env)) (backToKw pos (keywordEach kws X.env))) := by rfl) :
    RE G X W (.Call (.Attribute o m apos) [] kws pos) (wClsMK mf gD ks.length fk) := by
  have hC := hC.symm
  subst hC
  rw [← C.hK] at rd cm hb
  obtain ⟨gg, gV, hb, hr⟩ := hb
  refine ⟨⟨fun pins s σ H Q J ⟨w, S, r, ok, en, q⟩ => ?_⟩, lf_mon _⟩
  have q : out (wClsMK mf gD ks.length fk r S) (Qv G w H Q) (Qx G w H fun c d H' => W c d σ H') := q
  unfold wClsMK at q
  rw [out_bind] at q
  have h1 : tMa G W (lf fk) σ H fun zs H2 => spV (G.at C0 G.I0 G.as0) (spF mf) (gV [.ref C0] zs) H2 Q (fun c d H' => W c d σ H') ∧ zs.length = ks.length := by
    refine ⟨w, S, r, ok, en, out_mono q (fun ds S1 z vs w1 H1 x1 k1 r1 => ?_) fun _ _ z => z⟩
    unfold clmKW at z
    split at z
    · exact z.elim
    · rename_i hn
      split at z
      · rename_i hq
        have z := out_noFn z
        have rr : RepDs (G.at C0 G.I0 G.as0) w1 vs ds := repDs_at hn r1
        refine ⟨⟨w1, S1, gD [.fn] ds, wok_at k1 k1.tb.un, hr w1 [.ref C0] vs [.fn] ds ⟨rfl, trivial⟩ rr, out_mono z (fun d S2 y v w2 H2 x2 k2 r2 => ?_) fun x S2 y c dd w2 H2 x2 k2 r2 => ?_⟩, by rw [r1.length]; exact of_decide_eq_true hq⟩
        · exact (y.2.ext x1) v w2 H2 x2 (wok_back k2 k2.tb.un) ((repD_at y.1).mp r2)
        · exact (y.ext x1) c dd w2 H2 x2 (wok_back k2 k2.tb.un) (repX_at.mp r2)
      · exact z.elim
  have h0 : tC (.ref C0) σ H fun x H1 => x = .ref C0 ∧ H1 = H := ⟨rfl, rfl⟩
  refine PySem.W.methodCall_KW (pl := pl) (thn (ho.run pins s σ H _ J h0) fun u s1 ⟨x, H1, J1, rx, ex, eH⟩ => ?_) hev
  subst ex
  subst eH
  obtain rfl : u = Value.ref C0 := rx
  refine getmethcm_ok J1 rd cm fun s2 J2 => ?_
  refine callwith_cmK J2 (base_none J1 (Nat.le_refl _)) cm.fi hall (thn (hkw.pk.run pos _ s2 σ H1 _ J2 h1) fun ws s3 ⟨zs, H2, J3, rz, sv, l2⟩ => ⟨?_, pin_at J3, J3.kIn⟩) hpl
  rw [hks]
  have r2 : Vals [V.ref C0] [Value.ref C0] := .cons rfl .nil
  have e0 := J3.env0
  rw [C.hK] at e0
  have z : wpAny (model X.prog X.w) X.A (call (.ref s1.heap.objs.size) [] (ks.zip ws)) (EP X ((s1.heap.objs.size, PySem.W.methodObj (.ref g) (.ref C0)) :: pins) σ Q) X.xe s3 := by
    refine wpAny_call (PySem.W.method_call (pin_at J3) ?_)
    refine codeAny_mono (F.run X.A X.stack s3 H2 ⟨[.ref C0], ks.zip ws⟩ (gg [.ref C0] ws) (gV [.ref C0] zs) Q _ (C.rm.mono hk) C.gd e0 (hb.to s3 [.ref C0] ws J3.kIn rfl (by rw [← rz.length, l2])) (hb.rel r2 rz) sv) fun z s' hq => ?_
    cases z with
    | error er => exact passAt C.tk σ _ H2 s3 er s' J3 hq
    | ok fl =>
      cases fl with
      | ret u => exact J3.after hq
      | next => exact hq.elim
      | brk => exact hq.elim
      | cont => exact hq.elim
  exact thn z fun _ _ y => unpinE y
end
end RB.F
namespace RB.F
open PySem PySem.Spec PyProof.Rows L2 RB
section
variable {G : Glob} {X : Cx} {W : WX} {e e2 : Expr} {elts : List Expr} {kk n1 n2 l1 l2 : Nat} {p tpos pos pos' : Pos} {fa : FA} {T : Tgt} {f : FS} {body : List Stmt}
end
end RB.F
namespace RB
open PySem PySem.Spec PyProof.Rows L2
section
variable {M : Model} {A : Around} {E : Value → Shared → Prop} {Z : Obj → Prop} {B : Heap} {en : Env} {ou : List Env} {L a : Addr}
end
section
variable {M : Model} {A : Around} {E : Value → Shared → Prop} {env : Env}
end
section
variable {X : Cx} {W : WX} {pins : List (Addr × Obj)} {σ : L2.St} {H : Hp} {s : Shared}
end
end RB
namespace RB
open PySem PySem.Spec PyProof.Rows L2
section
variable {X : Cx} {W : WX}
end
section
variable {G : Glob} {X : Cx} {W : WX}
end
end RB
namespace RB.F
open PySem PySem.Spec PyProof.Rows L2 RB
section
variable {G : Glob} {X : Cx} {W : WX} {n : Nat}
end
end RB.F
namespace RB
open PySem PySem.Spec PyProof.Rows L2
section
variable {G : Glob} {X : Cx} {W : WX}
end
end RB
namespace RB.F
open PySem PySem.Spec PyProof.Rows L2 RB
section
variable {G : Glob} {X : Cx} {W : WX}
end
end RB.F
namespace RB
open PySem PySem.Spec PyProof.Rows L2
section
variable {X : Cx} {e : Expr} {te : TE} {pos p p' : Pos} {cs : List MatchCase} {body : List Stmt} {t : TS} {u tc : Str → TS} {x : Str}
structure PMt (X : Cx) (cs : List MatchCase) (t : Str → TS) : Prop where
  run : ∀ (pins : List (Addr × Obj)) (s : Shared) (σ : L2.St) (H : Hp) (D : Ends) (z : Str) (tk : Tok) (first : Bool), Inv X pins σ H s → t z D σ H →
    wpAny (model X.prog X.w) X.A (matchCases cs X.env (.str z tk) first) (SP X pins D) X.xe s
end
section
variable {G : Glob} {X : Cx} {W : WX} {e : Expr} {pos p p' : Pos} {cs : List MatchCase} {body : List Stmt} {x : Str}
structure RMt (G : Glob) (X : Cx) (W : WX) (cs : List MatchCase) (m : Str → WS) : Prop where
  pm : PMt X cs fun z => tMs G W (m z)
  mono : ∀ z, MonS (m z)
theorem PMt.imp {t u : Str → TS} (h : PMt X cs t) (i : ∀ z D σ H, u z D σ H → t z D σ H) : PMt X cs u := ⟨fun pins s σ H D z tk f I q => h.run pins s σ H D z tk f I (i z D σ H q)⟩
end
namespace F
open RB
section
variable {G : Glob} {X : Cx} {W : WX} {e : Expr} {pos p p' : Pos} {cs : List MatchCase} {body : List Stmt} {x : Str}
def RMt (G : Glob) (X : Cx) (W : WX) (cs : List MatchCase) (f : Str → FS) : Prop := RB.RMt G X W cs fun z => lfS (f z)
end
end F
end RB
namespace RB.F
open PySem PySem.Spec PyProof.Rows L2 RB StX
section
variable {G : Glob} {X : Cx} {W : WX} {n k : Nat} {f Cc : Addr} {pos p sp_ : Pos} {e ce : Expr} {fe fo : FE} {c : String} {x : Str} {mf : FD} {r : Rho} {S : Store}
end
end RB.F
namespace RB.F
open PySem PySem.Spec PyProof.Rows L2 RB
section
variable {G : Glob} {X : Cx} {W : WX} {n k : Nat} {m : Str}
end
end RB.F
namespace GQ
open PySem PySem.SeqAt
section
variable {prog : Program} {w : World} {A : Around} {R : Result → Shared → Prop} {l : Addr} {E : Value → Shared → Prop} {s : Shared}
end
end GQ
namespace RB.F
open PySem PySem.Spec PyProof.Rows L2 RB
section
variable {G : Glob} {X : Cx}
end
end RB.F
namespace RB.F
open PySem PySem.Spec PyProof.Rows L2 RB
section
variable {G : Glob} {X : Cx} {W : WX} {n : Nat} {a b c : Expr} {pos pos' p : Pos} {f1 : FE} {fa : FA}
end
end RB.F
namespace GQ
open PySem PySem.SeqAt
open MeetsSeq MeetsSeq2 MeetsSeq3 SeqRoads2
section
variable {prog : Program} {w : World} {A : Around} {R : Result → Shared → Prop}
variable {E : Value → Shared → Prop} {s : Shared}
end
end GQ
namespace RB.F
open PySem PySem.Spec PyProof.Rows L2 RB
section
variable {G : Glob} {X : Cx} {W : WX} {n k : Nat}
end
end RB.F
namespace RB.F
open PySem PySem.Spec PyProof.Rows L2 RB
section
variable {G : Glob} {X : Cx} {W : WX} {apos cpos : Pos} {o e f : Expr} {f0 f1 f2 : FE}
end
end RB.F
namespace RB
open PySem PySem.Spec PyProof.Rows L2
def LamO (o : Obj) (f : Addr) : HO := .ext fun h => h.get? f = some o
section
variable {X : Cx} {pins : List (Addr × Obj)} {σ : L2.St} {H : Hp} {s : Shared}
end
def LamAt (w : Wd) (q : Str) (mk : Value → Addr → Value → Obj) (f : Addr) : Prop := ∃ pm c' ctv, w.I f = some (LamO (mk pm c' ctv) f) ∧ w.I c' = some (LamX.CodeO c' q)
theorem LamAt.ext {w w' : Wd} {q : Str} {mk : Value → Addr → Value → Obj} {f : Addr} (h : LamAt w q mk f) (s : Same w.I w'.I) : LamAt w' q mk f :=
  let ⟨pm, c', ctv, a, b⟩ := h
  ⟨pm, c', ctv, s _ _ a, s _ _ b⟩
section
variable {G : Glob} {w : Wd} {S : Store} {H : Hp}
structure RowAt (w : Wd) (H : Hp) (q : Str) (mks : List (Value → Addr → Value → Obj)) (a : Addr) (fs : List Addr) : Prop where
  at_ : H a = some (.lst (fs.map V.ref))
  nI : w.I a = none
  nA : a ∉ w.as
  len : fs.length = mks.length
  lam : ∀ (i : Nat) f mk, fs[i]? = some f → mks[i]? = some mk → LamAt w q mk f
theorem RowAt.ext {w' : Wd} {H' : Hp} {q : Str} {mks : List (Value → Addr → Value → Obj)} {a : Addr} {fs : List Addr} (r : RowAt w H q mks a fs) (k : Wok G w S H) (x : Ext w H w' H') : RowAt w' H' q mks a fs := by
  obtain ⟨nA, nI⟩ := x.fresh a _ r.at_ r.nA
  exact ⟨x.frame a _ r.at_ r.nA (k.notTs r.at_ fun _ z => nomatch z), nI r.nI, nA, r.len, fun i f mk h1 h2 => (r.lam i f mk h1 h2).ext x.I⟩
end
end RB
namespace RB
open PySem PySem.Spec PyProof.Rows L2
section
variable {X : Cx} {W : WX} {pins : List (Addr × Obj)} {σ : L2.St} {H : Hp} {s : Shared}
end
end RB
namespace RB.F
open PySem PySem.Spec PyProof.Rows L2 RB
section
variable {G : Glob} {X : Cx} {W : WX} {pins : List (Addr × Obj)} {σ : L2.St} {H : Hp} {s : Shared}
end
section
variable {G : Glob} {X : Cx} {W : WX} {n : Nat}
end
end RB.F
namespace RB
open PySem PySem.Spec PyProof.Rows L2
end RB
namespace RB.F
open PySem PySem.Spec PyProof.Rows L2 RB
abbrev LamD := (Value → Addr → Value → Obj) × FE
section
variable {G : Glob} {X : Cx} {W : WX} {n : Nat}
end
section
variable {G : Glob} {X : Cx} {W : WX} {n : Nat} {iv ic : Nat} {q : Str} {rows : List LamD} {mc : (Store → O D) → Store → O D}
end
end RB.F
namespace RB
open PySem PySem.Spec PyProof.Rows L2
section
variable {G : Glob} {X : Cx} {W : WX} {e : Expr} {pos : Pos}
end
end RB
namespace RB.F
open PySem PySem.Spec PyProof.Rows L2 RB
section
variable {G : Glob} {X : Cx} {W : WX} {e : Expr} {pos : Pos}
end
end RB.F
namespace RB.F
open PySem PySem.Spec PyProof.Rows L2 RB
abbrev KI := Int ⊕ List Nat
def isT : KI → Bool
  | .inl _ => false
  | .inr _ => true
section
variable {X : Cx} {pins : List (Addr × Obj)} {σ : L2.St} {H : Hp} {s : Shared}
end
end RB.F
namespace RB.F
open PySem PySem.Spec PyProof.Rows L2 RB
section
variable {G : Glob} {X : Cx} {W : WX}
end
end RB.F
namespace RB
open PySem PySem.Spec PyProof.Rows L2
section
variable {X : Cx}
end
section
variable {G : Glob}
theorem Wok.more {w : Wd} {S : Store} {H H' : Hp} (k : Wok G w S H) (g : ∀ b o, H b = some o → H' b = some o) : Wok G w S H' ∧ Ext w H w H' := by
  refine ⟨⟨fun b u h => g b u (k.sub b u h), k.len, k.nd, k.tb.step rfl (Same.refl _) ⟨[], by simp⟩ fun P ps _ e i n => ⟨g _ _ e, i, n⟩, fun n c a h1 h2 => ?_⟩, ⟨Same.refl _, ⟨[], by simp⟩, rfl, fun b u h _ _ => g b u h, fun b u h q => ⟨q, fun z => z⟩, fun b u h => ⟨u, g b u h⟩⟩⟩
  have c0 := k.cells n c a h1 h2
  obtain ⟨o, ho⟩ := c0.there
  exact c0.grow (Same.refl _) (fun z => z) (by rw [g _ _ ho, ho])
end
end RB
namespace RB.F
open PySem PySem.Spec PyProof.Rows L2 RB
section
variable {G : Glob} {X : Cx} {W : WX} {e : Expr} {pos : Pos}
end
end RB.F
namespace RB.F
open PySem PySem.Spec PyProof.Rows L2 RB
section
variable {G : Glob} {X : Cx} {W : WX} {n k : Nat}
theorem CxG.less {m : Nat} (C : CxG G X W n) (h : m ≤ n) : CxG G X W m := ⟨C.hK, C.tk, C.rm.mono h, C.gd, C.calm⟩
structure ItRun (G : Glob) (X : Cx) (A : Around) (R : P → P → Prop) : Prop where
  run : ∀ {pins : List (Addr × Obj)} {σ : L2.St} {H : Hp} {s : Shared} {w : Wd} {S : Store} {v u : Value} {x y : V} {p q : P}, Inv X pins σ H s → RelV x v → RelV y u → Wok G w S H → Rep G w x p → Rep G w y q → R p q →
  wpAny (model X.prog X.w) A (eqBool v u) (fun r s' => r = true ∧ ∃ H' w', Inv X pins σ H' s' ∧ Wok G w' S H' ∧ RB.Ext w H w' H') X.xe s
def EqCl (p q : P) : Prop := ∃ n, p = .cel n ∧ q = .cel n
def EqRw (R : P → P → Prop) : List P → List P → Prop
  | [], [] => True
  | x :: xs, y :: ys => R x y ∧ EqRw R xs ys
  | _, _ => False
def EqTp (R : P → P → Prop) (p q : P) : Prop := ∃ xs ys, p = .tup xs ∧ q = .tup ys ∧ EqRw R xs ys
theorem EqRw.len {R : P → P → Prop} : ∀ {xs ys : List P}, EqRw R xs ys → xs.length = ys.length
  | [], [], _ => rfl
  | x :: xs, y :: ys, h => by rw [List.length_cons, List.length_cons, EqRw.len h.2]
  | [], _ :: _, h => h.elim
  | _ :: _, [], h => h.elim
theorem EqRw.at_ {R : P → P → Prop} : ∀ {xs ys : List P}, EqRw R xs ys → ∀ {i : Nat} {a b : P}, xs[i]? = some a → ys[i]? = some b → R a b
  | [], [], _, i, a, b, h, _ => by simp at h
  | x :: xs, y :: ys, h, i, a, b, h1, h2 => by
    cases i with
    | zero =>
      simp only [List.getElem?_cons_zero, Option.some.injEq] at h1 h2
      subst h1; subst h2
      exact h.1
    | succ i => exact EqRw.at_ h.2 (by simpa using h1) (by simpa using h2)
  | [], _ :: _, h, _, _, _, _, _ => h.elim
  | _ :: _, [], h, _, _, _, _, _ => h.elim
theorem it_or {A : Around} {R1 R2 : P → P → Prop} (h1 : ItRun G X A R1) (h2 : ItRun G X A R2) : ItRun G X A fun p q => R1 p q ∨ R2 p q := by
  refine ⟨fun {pins σ H s w S v u x y p q} I rx ry ok r1 r2 e => ?_⟩
  rcases e with e | e
  · exact h1.run I rx ry ok r1 r2 e
  · exact h2.run I rx ry ok r1 r2 e
mutual
def cmpB : Nat → P → Bool
  | _, .non => true
  | _, .bl _ => true
  | _, .int _ => true
  | _, .str _ => true
  | n + 1, .tup ds => cmpBs n ds
  | n + 1, .lst ds => cmpBs n ds
  | n + 1, .dK ks ds => cmpBs n ds && decide ks.Nodup
  | _, _ => false
def cmpBs : Nat → List P → Bool
  | _, [] => true
  | n, d :: ds => cmpB n d && cmpBs n ds
end
theorem kv_at {ks : List Key} {kvs : List (Key × V)} {vs : List (Key × Value)} (h1 : kvs.map (·.1) = ks) (rel : L2.KV kvs vs) {j : Nat} {k : Key} {v : Value} (h : vs[j]? = some (k, v)) : ks[j]? = some k ∧ ∃ x, (kvs.map (·.2))[j]? = some x ∧ RelV x v := by
  obtain ⟨kv, f1, f2, f3⟩ := L2.DX.pget rel h
  refine ⟨?_, kv.2, by rw [List.getElem?_map, f1]; rfl, f3⟩
  rw [← h1, List.getElem?_map, f1]
  exact congrArg some f2
theorem all_some {kb : List (Key × Value)} : ∀ {ka : List (Key × Value)}, (∀ p ∈ ka, (valueAt kb p.1).isSome = true) → (ka.all fun p => (valueAt kb p.1).isSome && true) = true := fun h => List.all_eq_true.mpr fun p m => by rw [h p m]; rfl
section
variable {pins : List (Addr × Obj)} {σ : L2.St} {H : Hp} {s : Shared} {w : Wd} {S : Store}
mutual
theorem tree_of (I : Inv X pins σ H s) (hK : X.K = G.K) (ok : Wok G w S H) : ∀ {p : P} {n : Nat} {x y : V} {v u : Value}, cmpB n p = true → Rep G w x p → Rep G w y p → RelV x v → RelV y u → PySem.W.EqTree X.prog X.w s n v u true
  | .non, n, x, y, v, u, _, r1, r2, rx, ry => by
    simp only [Rep] at r1 r2
    subst r1; subst r2
    cases rx; cases ry
    exact .same
  | .bl b, n, x, y, v, u, _, r1, r2, rx, ry => by
    simp only [Rep] at r1 r2
    subst r1; subst r2
    cases rx; cases ry
    exact .same
  | .int i, n, x, y, v, u, _, r1, r2, rx, ry => by
    simp only [Rep] at r1 r2
    subst r1; subst r2
    obtain ⟨t, rfl⟩ := rx
    obtain ⟨t2, rfl⟩ := ry
    have e := fun A : Around => SeqAt.EqAt.int_int (A := A) (s := s) i t i t2
    simp only [beq_self_eq_true] at e
    exact .leaf fun A _ => e A
  | .str z, n, x, y, v, u, _, r1, r2, rx, ry => by
    simp only [Rep] at r1 r2
    subst r1; subst r2
    obtain ⟨t, rfl⟩ := rx
    obtain ⟨t2, rfl⟩ := ry
    have e := fun A : Around => SeqAt.EqAt.str_str (A := A) (s := s) z t z t2
    simp only [beq_self_eq_true] at e
    exact .leaf fun A _ => e A
  | .tup ds, n + 1, x, y, v, u, h, r1, r2, rx, ry => by
    simp only [Rep] at r1 r2
    obtain ⟨p1, vs, rfl, t1, s1⟩ := r1
    obtain ⟨p2, us, rfl, t2, s2⟩ := r2
    cases rx; cases ry
    by_cases hab : p1 = p2
    · subst hab
      exact .same
    · have t1' := Same.tup ok.sub t1
      have t2' := Same.tup ok.sub t2
      rw [← hK] at t1' t2'
      obtain ⟨its, z1, e, m1⟩ := I.tuple t1'
      obtain ⟨its2, z2, e2, m2⟩ := I.tuple t2'
      obtain ⟨ln, hs⟩ := trees_of I hK ok (n := n) (by simpa only [cmpB] using h) s1 s2 z1 z2
      have t := PySem.W.EqTree.tuples (prog := X.prog) (w := X.w) (n := n) (e := fun _ => true) hab e e2 (fun j h1 h2 => by
        have := hs j (by simpa using h1) (by simpa using h2)
        simpa using this)
      have er : ((List.range (min its.toArray.size its2.toArray.size)).all (fun _ => true) && its.toArray.size == its2.toArray.size) = true := by simp [ln]
      rw [er] at t
      exact t
  | .lst ds, n + 1, x, y, v, u, h, r1, r2, rx, ry => by
    simp only [Rep] at r1 r2
    obtain ⟨p1, vs, rfl, t1, s1⟩ := r1
    obtain ⟨p2, us, rfl, t2, s2⟩ := r2
    cases rx; cases ry
    by_cases hab : p1 = p2
    · subst hab
      exact .same
    · obtain ⟨its, k1, z1, e, _⟩ := I.lst (ok.sub _ _ t1)
      obtain ⟨its2, k2, z2, e2, _⟩ := I.lst (ok.sub _ _ t2)
      obtain ⟨ln, hs⟩ := trees_of I hK ok (n := n) (by simpa only [cmpB] using h) s1 s2 z1 z2
      have t := PySem.W.EqTree.lists (prog := X.prog) (w := X.w) (n := n) (e := fun _ => true) hab ⟨_, e, rfl, k1, rfl⟩ ⟨_, e2, rfl, k2, rfl⟩ (by simpa using ln) (fun j h1 h2 => by
        have := hs j (by simpa using h1) (by simpa using h2)
        simpa using this)
      have er : ((List.range its.toArray.size).all (fun _ => true)) = true := by simp
      rw [er] at t
      exact t
  | .dK ks ds, n + 1, x, y, v, u, h, r1, r2, rx, ry => by
    simp only [cmpB, Bool.and_eq_true, decide_eq_true_eq] at h
    simp only [Rep] at r1 r2
    obtain ⟨p1, kvs, rfl, t1, h1, s1⟩ := r1
    obtain ⟨p2, kvs2, rfl, t2, h2, s2⟩ := r2
    cases rx; cases ry
    by_cases hab : p1 = p2
    · subst hab
      exact .same
    · obtain ⟨_, n1, ka, ra, da⟩ := dk_of I.hok (ok.sub _ _ t1)
      obtain ⟨_, n2, kb, rb, db⟩ := dk_of I.hok (ok.sub _ _ t2)
      have la : ka.length = ks.length := by rw [← ra.length, ← h1, List.length_map]
      have lb : kb.length = ks.length := by rw [← rb.length, ← h2, List.length_map]
      have ek : ka.map (·.1) = ks := by rw [← ra.keys, h1]
      have ek2 : kb.map (·.1) = ks := by rw [← rb.keys, h2]
      have t := PySem.W.EqTree.dicts (knd := mixKind X.prog X.w) (n := n) (e := fun _ => true) hab n1 n2 da db (fun k v y hm hv => by
        obtain ⟨j, hj⟩ := List.mem_iff_getElem?.mp hm
        obtain ⟨a1, x1, a2, a3⟩ := kv_at h1 ra hj
        have hv' : ∃ q ∈ kb, q.1 = k ∧ q.2 = y := by
          unfold valueAt at hv
          rw [Option.map_eq_some_iff] at hv
          obtain ⟨q, f1, f2⟩ := hv
          exact ⟨q, List.mem_of_find?_eq_some f1, by simpa using List.find?_some f1, f2⟩
        obtain ⟨q, mq, rfl, rfl⟩ := hv'
        obtain ⟨i, hi⟩ := List.mem_iff_getElem?.mp mq
        obtain ⟨b1, x2, b2, b3⟩ := kv_at (k := q.1) (v := q.2) h2 rb hi
        have eij : j = i := (List.getElem?_inj (List.getElem?_eq_some_iff.mp a1).1 h.2).mp (a1.trans b1.symm)
        subst eij
        exact treeAt_of I hK ok (n := n) h.1 s1 s2 a2 b2 a3 b3)
      have er : (ka.length == kb.length && ka.all fun p => (valueAt kb p.1).isSome && true) = true := by
        rw [la, lb, beq_self_eq_true, Bool.true_and]
        refine all_some fun p m => ?_
        have : p.1 ∈ kb.map (·.1) := by rw [ek2, ← ek]; exact List.mem_map.mpr ⟨p, m, rfl⟩
        obtain ⟨q, mq, eq⟩ := List.mem_map.mp this
        unfold valueAt
        rw [Option.isSome_map, List.find?_isSome]
        exact ⟨q, mq, by simpa using eq⟩
      rw [er] at t
      exact t
  | .tup _, 0, _, _, _, _, h, _, _, _, _ => by simp [cmpB] at h
  | .lst _, 0, _, _, _, _, h, _, _, _, _ => by simp [cmpB] at h
  | .dK _ _, 0, _, _, _, _, h, _, _, _, _ => by simp [cmpB] at h
  | .ty _, n, _, _, _, _, h, _, _, _, _ => by cases n <;> simp [cmpB] at h
  | .scr _, n, _, _, _, _, h, _, _, _, _ => by cases n <;> simp [cmpB] at h
  | .dT _ _, n, _, _, _, _, h, _, _, _, _ => by cases n <;> simp [cmpB] at h
  | .fK _ _, n, _, _, _, _, h, _, _, _, _ => by cases n <;> simp [cmpB] at h
  | .obj _ _ _, n, _, _, _, _, h, _, _, _, _ => by cases n <;> simp [cmpB] at h
  | .cel _, n, _, _, _, _, h, _, _, _, _ => by cases n <;> simp [cmpB] at h
theorem trees_of (I : Inv X pins σ H s) (hK : X.K = G.K) (ok : Wok G w S H) : ∀ {ds : List P} {n : Nat} {vs us : List V} {a b : List Value}, cmpBs n ds = true → Reps G w vs ds → Reps G w us ds → Vals vs a → Vals us b → a.length = b.length ∧ ∀ j (h1 : j < a.length) (h2 : j < b.length), PySem.W.EqTree X.prog X.w s n a[j] b[j] true
  | [], n, vs, us, a, b, _, r1, r2, z1, z2 => by
    simp only [Reps] at r1 r2
    subst r1; subst r2
    cases z1; cases z2
    exact ⟨rfl, fun j h1 => absurd h1 (Nat.not_lt_zero _)⟩
  | d :: ds, n, vs, us, a, b, h, r1, r2, z1, z2 => by
    simp only [cmpBs, Bool.and_eq_true] at h
    simp only [Reps] at r1 r2
    obtain ⟨v, r, rfl, f1, f2⟩ := r1
    obtain ⟨v', r', rfl, g1, g2⟩ := r2
    cases z1 with
    | cons q1 q2 =>
      cases z2 with
      | cons q3 q4 =>
        have t := tree_of I hK ok h.1 f1 g1 q1 q3
        obtain ⟨ln, ih⟩ := trees_of I hK ok h.2 f2 g2 q2 q4
        refine ⟨by simp [ln], fun j h1 h2 => ?_⟩
        cases j with
        | zero => exact t
        | succ j => exact ih j (by simpa using h1) (by simpa using h2)
theorem treeAt_of (I : Inv X pins σ H s) (hK : X.K = G.K) (ok : Wok G w S H) : ∀ {ds : List P} {n : Nat} {vs us : List V} {j : Nat} {x y : V} {v u : Value}, cmpBs n ds = true → Reps G w vs ds → Reps G w us ds → vs[j]? = some x → us[j]? = some y → RelV x v → RelV y u → PySem.W.EqTree X.prog X.w s n v u true
  | [], n, vs, us, j, x, y, v, u, _, r1, r2, e1, _, _, _ => by
    simp only [Reps] at r1
    subst r1
    simp at e1
  | d :: ds, n, vs, us, j, x, y, v, u, h, r1, r2, e1, e2, rx, ry => by
    simp only [cmpBs, Bool.and_eq_true] at h
    simp only [Reps] at r1 r2
    obtain ⟨v1, r, rfl, f1, f2⟩ := r1
    obtain ⟨v2, r', rfl, g1, g2⟩ := r2
    cases j with
    | zero =>
      simp only [List.getElem?_cons_zero, Option.some.injEq] at e1 e2
      subst e1; subst e2
      exact tree_of I hK ok h.1 f1 g1 rx ry
    | succ j => exact treeAt_of I hK ok h.2 f2 g2 (by simpa using e1) (by simpa using e2) rx ry
end
end
def EqSm (p q : P) : Prop := p = q ∧ cmpB 60 p = true
theorem it_same {A : Around} (hK : X.K = G.K) (hu : A.units + 64 < cLine) : ItRun G X A EqSm := by
  refine ⟨fun {pins σ H s w S v u x y p q} I rx ry ok r1 r2 ⟨e, h⟩ => ?_⟩
  subst e
  exact (tree_of I hK ok h r1 r2 rx ry).at A (by omega) X.xe _ ⟨rfl, H, w, I, ok, RB.Ext.refl _ _⟩
def EqI (tab : ITab) (p q : P) : Prop := EqSm p q ∨ EqCl p q ∨ EqOneT tab true p q
def EqJ (tab : ITab) (p q : P) : Prop := EqI tab p q ∨ EqTp (EqI tab) p q
theorem it_cel {A : Around} : ItRun G X A EqCl := by
  refine ⟨fun {pins σ H s w S v u x y p q} I rx ry ok r1 r2 ⟨n, e1, e2⟩ => ?_⟩
  subst e1; subst e2
  simp only [Rep] at r1 r2
  obtain ⟨_, a, rfl, ha⟩ := r1
  obtain ⟨_, b, rfl, hb⟩ := r2
  rw [ha] at hb
  cases hb
  cases rx; cases ry
  exact SeqAt.EqAt.same (A := A) (s := s) (.ref a) X.prog X.w X.xe _ ⟨rfl, H, w, I, ok, RB.Ext.refl _ _⟩
theorem it_own {tab : ITab} {A : Around} {m : Nat} (C : CxG G X W n) (hg : A.guards = some []) (hf : A.frames = X.A.frames) (hr : ∀ k, k + 1 ≤ m → Room k A) (hc : ∀ q ∈ tab, EqC G X m q.1 q.2) : ItRun G X A (EqOneT tab true) := by
  refine ⟨fun {pins σ H s w S v u x y p q} I rx ry ok r1 r2 e => ?_⟩
  unfold EqOneT at e
  split at e
  · rename_i c1 n1 v1 c2 n2 v2
    obtain ⟨h2, ⟨mf, hlk, e⟩, hpl⟩ := e
    subst h2
    have hc := hc _ (lookup_mem hlk)
    obtain ⟨C1, g, fd, ps, k, g1, g2, g3, g4, g5, g6, g7⟩ := hc.run
    obtain ⟨p1, C2, fs, e1, e2, e3, m1, m2⟩ := objOf_at ok (d := .p (.obj c1 n1 v1)) r1 rfl
    obtain ⟨p2, C3, gs, e4, e5, e6, m3, m4⟩ := objOf_at ok (d := .p (.obj c1 n2 v2)) r2 rfl
    subst e1; subst e4
    have g1' : G.cls c1 = some C1 := g1
    rw [g1'] at e2 e5
    cases e2; cases e5
    cases rx; cases ry
    have hE : G.isE c1 = false := hc.isE
    rcases e3 with ⟨_, dx, e3⟩ | ⟨e0, _⟩
    · rcases e6 with ⟨_, dy, e6⟩ | ⟨e0, _⟩
      · by_cases hab : p1 = p2
        · subst hab
          exact SeqAt.EqAt.same (A := A) (s := s) (.ref p1) X.prog X.w X.xe _ ⟨rfl, H, w, I, ok, RB.Ext.refl _ _⟩
        · refine GQ.eqBool_refG hab ?_
          obtain ⟨mA, J, _⟩ := ins_get I.hok e3
          obtain ⟨mB, J', _⟩ := ins_get I.hok e6
          obtain ⟨od, J, _⟩ := J.look
          obtain ⟨od', J', _⟩ := J'.look
          obtain ⟨mm, hF⟩ := I.fr
          refine PySem.W.cmp_K (op := .Eq) (tb := .ref C1) (hr k g4).units0 hF I.ok.mod.kin J J'.type (by simp [PySem.W.notFirst]) g2.at_ g2.fn ?_
          refine wpAny_mono (run_two (Q := fun v H' => v = .bl true ∧ ∃ w', Wok G w' S H' ∧ RB.Ext w H w' H') (x := .ref p1) (y := .ref p2) (d1 := .p (.obj c1 n1 v1)) (d2 := .p (.obj c1 n2 v2)) (A := A) C g3 (hr k g4) hg hf g5 I rfl rfl ok r1 r2 ?_) (fun v s' ⟨_, H', I', r, e, z⟩ => ?_) fun _ _ z => z
          · show out (mf [.p (.obj c1 n1 v1), .p (.obj c1 n2 v2)] S) _ _
            rw [e]
            intro v w' H' x1 k1 rd
            exact ⟨rep_bl.mp rd, w', k1, x1⟩
          · subst e
            cases r
            obtain ⟨w', k1, x1⟩ := z
            exact ⟨true, rfl, rfl, H', w', I', k1, x1⟩
      · rw [hE] at e0; cases e0
    · rw [hE] at e0; cases e0
  · exact e.elim
theorem it_tup {A : Around} {R : P → P → Prop} (hK : X.K = G.K) (hu : A.units < cLine) (h : ItRun G X A.in1 R) : ItRun G X A (EqTp R) := by
  refine ⟨fun {pins σ H s w S v u x y p q} I rx ry ok r1 r2 ⟨xs, ys, e1, e2, er⟩ => ?_⟩
  subst e1; subst e2
  simp only [Rep] at r1 r2
  obtain ⟨p1, vs, rfl, t1, s1⟩ := r1
  obtain ⟨p2, us, rfl, t2, s2⟩ := r2
  cases rx
  cases ry
  by_cases hab : p1 = p2
  · subst hab
    exact SeqAt.EqAt.same (A := A) (s := s) (.ref p1) X.prog X.w X.xe _ ⟨rfl, H, w, I, ok, RB.Ext.refl _ _⟩
  · refine GQ.eqBool_refG hab ?_
    have t1' := Same.tup ok.sub t1
    have t2' := Same.tup ok.sub t2
    rw [← hK] at t1' t2'
    obtain ⟨its, z1, e, m1⟩ := I.tuple t1'
    obtain ⟨its2, z2, e2, m2⟩ := I.tuple t2'
    have l1 : its.toArray.size = xs.length := by rw [List.size_toArray, ← z1.length, s1.length]
    have l2 : its2.toArray.size = ys.length := by rw [List.size_toArray, ← z2.length, s2.length]
    have ln := er.len
    refine GQ.rc_tupB (fun _ => true) true hu (fun i s' => ∃ H1 w1, Inv X pins σ H1 s' ∧ Wok G w1 S H1 ∧ RB.Ext w H w1 H1) e e2 (fun i h1 h2 z => by cases z) (fun z => by rw [l1, l2, ln]; simp) (fun i h1 h2 s' hB lq => ?_) (fun i s' lq => ?_) ⟨H, w, I, ok, RB.Ext.refl _ _⟩
    · obtain ⟨H1, w1, I1, k1', e1⟩ := lq
      have k1 : i < vs.length := by rw [z1.length]; simpa using h1
      have k2 : i < us.length := by rw [z2.length]; simpa using h2
      have j1 : i < its.length := by simpa using h1
      have j2 : i < its2.length := by simpa using h2
      obtain ⟨u1, hu1, ru1⟩ := z1.get (List.getElem?_eq_getElem k1)
      obtain ⟨u2, hu2, ru2⟩ := z2.get (List.getElem?_eq_getElem k2)
      rw [List.getElem?_eq_getElem j1] at hu1
      rw [List.getElem?_eq_getElem j2] at hu2
      obtain ⟨a1, ha1, ra1⟩ := s1.get' (List.getElem?_eq_getElem k1)
      obtain ⟨a2, ha2, ra2⟩ := s2.get' (List.getElem?_eq_getElem k2)
      have b1 : its.toArray[i] = u1 := by simpa using Option.some.inj hu1
      have b2 : its2.toArray[i] = u2 := by simpa using Option.some.inj hu2
      rw [b1, b2]
      have ra1 : Rep G w1 _ _ := RepD.mono (d := .p a1) e1 ra1
      have ra2 : Rep G w1 _ _ := RepD.mono (d := .p a2) e1 ra2
      exact wpAny_mono (h.run I1 ru1 ru2 k1' ra1 ra2 (er.at_ ha1 ha2)) (fun r s2 ⟨hr, H2, w2, I2, k2', e4⟩ => ⟨hr, H2, w2, I2, k2', e1.trans e4⟩) fun _ _ z => z
    · obtain ⟨H1, w1, I1, k1, x1⟩ := lq
      exact ⟨true, rfl, rfl, H1, w1, I1, k1, x1⟩
open Classical in
noncomputable def dNeP (tab : ITab) (d1 d2 : D) (S : Store) : O D := match d1, d2 with
  | .p (.tup xs), .p (.tup ys) => if EqRw (EqJ tab) xs ys then .ok (.p (.bl false)) S else .bad
  | _, _ => .bad
theorem dNeP_ok {tab : ITab} {xs ys : List P} {S : Store} (h : EqRw (EqJ tab) xs ys) : dNeP tab (.p (.tup xs)) (.p (.tup ys)) S = .ok (.p (.bl false)) S := if_pos h
theorem ox_neP {tab : ITab} {m : Nat} (C : CxG G X W n) (hm : m + 1 ≤ n) (hc : ∀ q ∈ tab, EqC G X m q.1 q.2) : OpX G X W (compareOp .NotEq) (dNeP tab) := by
  intro pins s σ H x y v u Q I rx ry ⟨w, S, d1, d2, ok, r1, r2, q⟩
  have rm1 : ∀ k, k + 1 ≤ m → Room k X.A.in1 := fun k h => (C.rm.mono (by omega : k + 1 ≤ n)).in1
  have rm2 : ∀ k, k + 1 ≤ m → Room k X.A.in1.in1 := fun k h => ((C.rm.mono (by omega : k + 1 + 1 ≤ n)).in1).in1
  have u0 := C.rm.un
  have hu1 : X.A.in1.units + 64 < cLine := by show X.A.units + 1 + 64 < _; omega
  have hu2 : X.A.in1.in1.units + 64 < cLine := by show X.A.units + 1 + 1 + 64 < _; omega
  have one1 : ItRun G X X.A.in1 (EqI tab) := it_or (it_same C.hK hu1) (it_or it_cel (it_own C C.gd rfl rm1 hc))
  have one2 : ItRun G X X.A.in1.in1 (EqI tab) := it_or (it_same C.hK hu2) (it_or it_cel (it_own C C.gd rfl rm2 hc))
  have one : ItRun G X X.A.in1 (EqJ tab) := it_or one1 (it_tup C.hK (by omega) one2)
  unfold dNeP at q
  split at q
  · rename_i xs ys
    split at q
    · rename_i er
      have ln := er.len
      simp only [RepD, Rep] at r1 r2
      obtain ⟨p1, vs, rfl, t1, s1⟩ := r1
      obtain ⟨p2, us, rfl, t2, s2⟩ := r2
      cases rx
      cases ry
      have t1' := Same.tup ok.sub t1
      have t2' := Same.tup ok.sub t2
      rw [← C.hK] at t1' t2'
      obtain ⟨its, z1, e, m1⟩ := I.tuple t1'
      obtain ⟨its2, z2, e2, m2⟩ := I.tuple t2'
      have l1 : its.toArray.size = xs.length := by rw [List.size_toArray, ← z1.length, s1.length]
      have l2 : its2.toArray.size = ys.length := by rw [List.size_toArray, ← z2.length, s2.length]
      show wpAny (model X.prog X.w) X.A (richCompare .NotEq (.ref p1) (.ref p2)) (EP X pins σ Q) X.xe s
      refine GQ.rc_tupN (by omega) C.rm.units0 (fun i s' => ∃ H1 w1, Inv X pins σ H1 s' ∧ Wok G w1 S H1 ∧ RB.Ext w H w1 H1) e e2 (fun i h1 h2 s' lq => ?_) (fun s' lq => ?_) ⟨H, w, I, ok, RB.Ext.refl _ _⟩
      · obtain ⟨H1, w1, I1, k1', e1⟩ := lq
        have k1 : i < vs.length := by rw [z1.length]; simpa using h1
        have k2 : i < us.length := by rw [z2.length]; simpa using h2
        have j1 : i < its.length := by simpa using h1
        have j2 : i < its2.length := by simpa using h2
        obtain ⟨u1, hu1, ru1⟩ := z1.get (List.getElem?_eq_getElem k1)
        obtain ⟨u2, hu2, ru2⟩ := z2.get (List.getElem?_eq_getElem k2)
        rw [List.getElem?_eq_getElem j1] at hu1
        rw [List.getElem?_eq_getElem j2] at hu2
        obtain ⟨a1, ha1, ra1⟩ := s1.get' (List.getElem?_eq_getElem k1)
        obtain ⟨a2, ha2, ra2⟩ := s2.get' (List.getElem?_eq_getElem k2)
        have b1 : its.toArray[i] = u1 := by simpa using Option.some.inj hu1
        have b2 : its2.toArray[i] = u2 := by simpa using Option.some.inj hu2
        rw [b1, b2]
        have ra1 : Rep G w1 _ _ := RepD.mono (d := .p a1) e1 ra1
        have ra2 : Rep G w1 _ _ := RepD.mono (d := .p a2) e1 ra2
        exact wpAny_mono (one.run I1 ru1 ru2 k1' ra1 ra2 (er.at_ ha1 ha2)) (fun r s2 ⟨hr, H2, w2, I2, k2', e4⟩ => ⟨hr, H2, w2, I2, k2', e1.trans e4⟩) fun _ _ z => z
      · obtain ⟨H1, w1, I1, k1, x1⟩ := lq
        exact ⟨.bl false, H1, I1, rfl, q _ w1 H1 x1 k1 (rep_bl.mpr rfl)⟩
    · exact q.elim
  · exact q.elim
end
def wLentC (i : Nat) (f : FE) (r : Rho) (S : Store) : O D := match r[i]? with
  | some (some d) => liftT (lentF f r i) (nrm d) S
  | _ => .bad
theorem wLentC_e {i : Nat} {f : FE} {r : Rho} {S : Store} {d : D} (h : r[i]? = some (some d)) : wLentC i f r S = liftT (lentF f r i) (nrm d) S := by
  unfold wLentC
  rw [h]
section
variable {G : Glob} {X : Cx} {W : WX} {e : Expr}
theorem re_lentC {i : Nat} {f : FE} (h1 : Glob.one G = G) (he : RE G X W e f) : RE (Glob.two G) X W e (wLentC i f) := by
  refine ⟨PE.imp he.pe fun σ H Q ⟨w, S, r, ok, en, q⟩ => ?_, lf_mon _⟩
  have q : out (wLentC i f r S) (Qv (Glob.two G) w H Q) (Qx (Glob.two G) w H fun c d H' => W c d σ H') := q
  unfold wLentC at q
  split at q
  · rename_i d hd
    obtain ⟨v, hv, rv⟩ := en.at_ i d hd
    have sv := liftT_in ok (repD_nrm rv) q
    rw [show Glob.one (Glob.two G) = G from h1] at sv
    obtain ⟨w1, S1, ds1, k1, rd, q1⟩ := sv
    match ds1, rd with
    | [d1], ⟨rd1, _⟩ => exact ⟨w1, S1, envOf r i d1, k1, env_lent en.len hv rd1, q1⟩
  · exact q.elim
end
theorem fn_twoC {G : Glob} {P : Program} {w : World} {mg : Str → Option Value} {base : Heap} {k : Nat} {f g : Addr} {I0 : Hp} {as0 : List Addr} {fd : FuncData} {ps : List Str} {m : FD} (nc : G.cels = false)
    (F : FnG (G.at f (fun _ => none) []) P w mg base k g fd ps (spF m)) : FnG (Glob.two (G.at f I0 as0)) P w mg base k g fd ps (spF (liftM m)) := by
  have e : Glob.one (Glob.two (G.at f I0 as0)) = G.at f (fun _ => none) [] := by
    obtain ⟨_, _, _, _, _, c, _, _⟩ := G
    have nc : c = false := nc
    subst nc
    rfl
  refine fn_lift ?_
  rw [e]
  exact F
end RB.F
namespace RB.F
open PySem PySem.Spec PyProof.Rows L2 RB
def evs := And.intro @RB.F.wSeq.eq_1
  (And.intro @RB.F.wRet_e
  (And.intro @RB.F.retK.eq_1
  (And.intro @RB.F.wRetN.eq_1
  (And.intro @RB.F.wDrop_e
  (And.intro @RB.F.dropK.eq_1
  (And.intro @RB.F.wSet_e
  (And.intro @RB.F.setK.eq_1
  (And.intro @RB.F.wNext.eq_1
  (And.intro @RB.F.wIfS_e
  (And.intro @RB.F.ifK.eq_1
  (And.intro @RB.F.wBreak.eq_1
  (And.intro @RB.F.wCont.eq_1
  (And.intro @RB.F.wFor_e
  (And.intro @RB.F.forK.eq_1
  (And.intro @RB.F.wVar.eq_1
  (And.intro @RB.F.wC.eq_1
  (And.intro @RB.F.wBin_e
  (And.intro @RB.F.binK.eq_1
  (And.intro @RB.F.wUn.eq_1
  (And.intro @RB.F.wNil.eq_1
  (And.intro @RB.F.wCons_e
  (And.intro @RB.F.consK.eq_1
  (And.intro @RB.F.consK2.eq_1
  (And.intro @RB.F.wCB.eq_1
  (And.intro @RB.F.wCall0.eq_1
  (And.intro @RB.F.wCallK_e
  (And.intro @RB.F.callKK_e
  (And.intro @RB.F.wTest_e
  (And.intro @RB.F.testK_e
  (And.intro @RB.F.wAnd_e
  (And.intro @RB.F.andK.eq_1
  (And.intro @RB.F.wOr_e
  (And.intro @RB.F.orK.eq_1
  (And.intro @RB.F.wNot_e
  (And.intro @RB.F.notK.eq_1
  (And.intro @RB.F.wAndV_e
  (And.intro @RB.F.andVK_t
  (And.intro @RB.F.andVK_f
  (And.intro @RB.F.wOrV_e
  (And.intro @RB.F.orVK_t
  (And.intro @RB.F.orVK_f
  (And.intro @RB.F.wNotV_e
  (And.intro @RB.F.notVK_e
  (And.intro @RB.F.wIf_e
  (And.intro @RB.F.ifEK.eq_1
  (And.intro @RB.F.wChain_e
  (And.intro @RB.F.chK1.eq_1
  (And.intro @RB.F.chK2.eq_1
  (And.intro @RB.F.chK3_t
  (And.intro @RB.F.chK3_f
  (And.intro @RB.F.wChain3.eq_1
  (And.intro @RB.F.chJ.eq_1
  (And.intro @RB.F.chJ0.eq_1
  (And.intro @RB.F.chJ1_t
  (And.intro @RB.F.chJ1_f
  (And.intro @RB.F.chJ2.eq_1
  (And.intro @RB.F.chJ3_t
  (And.intro @RB.F.chJ3_f
  (And.intro @RB.F.wDisp_e
  (And.intro @RB.F.dispK.eq_1
  (And.intro @RB.F.wNewL_e
  (And.intro @RB.F.newK.eq_1
  (And.intro @RB.F.wSl_e
  (And.intro @RB.F.slK.eq_1
  (And.intro @RB.F.slK1.eq_1
  (And.intro @RB.F.slK2_e
  (And.intro @RB.F.wNoP.eq_1
  (And.intro @RB.F.wPart_e
  (And.intro @RB.F.partK_e
  (And.intro @RB.F.wIt_e
  (And.intro @RB.F.itK.eq_1
  (And.intro @RB.F.wRng_e
  (And.intro @RB.F.rngK_1
  (And.intro @RB.F.rngK_2
  (And.intro @RB.F.wYes.eq_1
  (And.intro @RB.F.wLC_e
  (And.intro @RB.F.lcK.eq_1
  (And.intro @RB.F.lstK.eq_1
  (And.intro @RB.F.wDNew.eq_1
  (And.intro @RB.F.wPairs.eq_1
  (And.intro @RB.F.wPairs.eq_2
  (And.intro @RB.F.wDict_e
  (And.intro @RB.F.dictK.eq_1
  (And.intro @RB.F.wPut3_e
  (And.intro @RB.F.putK.eq_1
  (And.intro @RB.F.putK1.eq_1
  (And.intro @RB.F.putK2.eq_1
  (And.intro @RB.F.nextK.eq_1
  (And.intro @RB.F.wFSet_e
  (And.intro @RB.F.fsetK.eq_1
  (And.intro @RB.F.fsetK1.eq_1
  (And.intro @RB.F.wPar2_e
  (And.intro @RB.F.par2K_e
  (And.intro @RB.F.wPar3_e
  (And.intro @RB.F.par3K_e
  (And.intro @RB.F.wAsgT_e
  (And.intro @RB.F.asgK.eq_1
  (And.intro @RB.F.wRaise_e
  (And.intro @RB.F.raiseK.eq_1
  (And.intro @RB.F.wTry.eq_1
  (And.intro @RB.F.wPick.eq_1
  (And.intro @RB.F.wPick.eq_2
  (And.intro @RB.F.wJoin_e
  (And.intro @RB.F.joinK_e
  (And.intro @RB.F.joinK2_e
  (And.intro @RB.F.wIsi2_e
  (And.intro @RB.F.isi2K.eq_1
  (And.intro @RB.F.wBM_e
  (And.intro @RB.F.bmK.eq_1
  (And.intro @RB.F.wMake_e
  (And.intro @RB.F.makeK.eq_1
  (And.intro @RB.F.makeK2.eq_1
  (And.intro @RB.F.pk.eq_1
  (And.intro @RB.F.wRevL.eq_1
  (And.intro @RB.F.revK.eq_1
  (And.intro @RB.F.wStar.eq_1
  (And.intro @RB.F.starK.eq_1
  (And.intro @RB.F.starK2.eq_1
  (And.intro @RB.F.wAsgS.eq_1
  (And.intro @RB.F.asgSK.eq_1
  (And.intro @RB.F.asgSK.eq_2
  (And.intro @RB.F.wAug.eq_1
  (And.intro @RB.F.augK.eq_1
  (And.intro @RB.F.augK2.eq_1
  (And.intro @RB.F.dIAdd.eq_1
  (And.intro @RB.F.dIAdd.eq_2
  (And.intro @RB.F.dIAdd.eq_3
  (And.intro @RB.F.wMeth_e
  (And.intro @RB.F.methK2_e
  (And.intro @RB.F.wFrz.eq_1
  (And.intro @RB.F.wZip_e
  (And.intro @RB.F.zipK.eq_1
  (And.intro @RB.F.zipK.eq_2
  (And.intro @RB.F.wEnum_e
  (And.intro @RB.F.enumK_e
  (And.intro @RB.F.wBM0.eq_1
  (And.intro @RB.F.bm0K.eq_1
  (And.intro @RB.F.wRngN.eq_1
  (And.intro @RB.F.rngNK_e
  (And.intro @RB.F.wRngW.eq_1
  (And.intro @RB.F.rngWK_e
  (And.intro @RB.F.dInsert.eq_1
  (And.intro @RB.F.dInsert.eq_2
  (And.intro @RB.F.dClear.eq_1
  (And.intro @RB.F.dClear.eq_2
  (And.intro @RB.F.dCon.eq_1
  (And.intro @RB.F.wJs_n
  (And.intro @RB.F.wJs_e
  (And.intro @RB.F.jsK_s
  (And.intro @RB.F.jsC_t
  (And.intro @RB.F.dStr.eq_1
  (And.intro @RB.F.dStr.eq_2
  (And.intro @RB.F.dStr.eq_3
  (And.intro @RB.F.dMulS.eq_1
  (And.intro @RB.F.dMulS.eq_2
  (And.intro @RB.F.dFmt.eq_1
  (And.intro @RB.F.dFmt.eq_2
  (And.intro @RB.F.dFmt.eq_3
  (And.intro @RB.F.dFmtS.eq_1
  (And.intro @RB.F.dFmtS.eq_2
  (And.intro @RB.F.wListRg.eq_1
  (And.intro @RB.F.lrK.eq_1
  (And.intro @RB.F.lrK2_e
  (And.intro @RB.F.wListR1.eq_1
  (And.intro @RB.F.lrK1_e
  (And.intro @RB.F.wAsgN.eq_1
  (And.intro @RB.F.asgN_e
  (And.intro @RB.F.wLCC.eq_1
  (And.intro @RB.F.lcKC.eq_1
  (And.intro @RB.F.lstKC.eq_1
  (And.intro @RB.F.wTabI_e
  (And.intro @RB.F.wGet2_e
  (And.intro @RB.F.get2K_e
  (And.intro @RB.F.get2K1.eq_1
  (And.intro @RB.F.get2K2.eq_1
  (And.intro @RB.F.dListS.eq_1
  (And.intro @RB.F.dListS.eq_2
  (And.intro @RB.F.wMkX_e
  (And.intro @RB.F.mkX.eq_1
  (And.intro @RB.F.dMulL.eq_1
  (And.intro @RB.F.dMulL.eq_2
  (And.intro @RB.F.wFrzV_e
  (And.intro @RB.F.frzV.eq_1
  (And.intro @RB.F.frzVK_e
  (And.intro @RB.F.wOrX_e
  (And.intro @RB.F.orXK_n
  (And.intro @RB.F.orXK_t
  (And.intro @RB.F.wCallI_e
  (And.intro @RB.F.callI1.eq_1
  (And.intro @RB.F.callI1.eq_2
  (And.intro @RB.F.callI2.eq_1
  (And.intro @RB.F.negI.eq_1
  (And.intro @RB.F.negI.eq_2
  (And.intro @RB.F.wEnumA_e
  (And.intro @RB.F.enumAK_l
  (And.intro @RB.F.enumAK_t
  (And.intro @RB.F.dEqNil_e
  (And.intro @RB.F.wProp_e
  (And.intro @RB.F.propK.eq_1
  (And.intro @RB.F.noX.eq_1
  (And.intro @RB.F.noX.eq_2
  (And.intro @RB.F.wClsM_e
  (And.intro @RB.F.clmK_e1
  (And.intro @RB.F.noFn.eq_1
  (And.intro @RB.F.noFn.eq_2
  (And.intro @RB.F.wMakeC_e
  (And.intro @RB.F.mkcK_e
  (And.intro @RB.F.wCallKP_e
  (And.intro @RB.F.callK1_e
  (And.intro @RB.F.callK2_e
  (And.intro @RB.F.wMakeV_e
  (And.intro @RB.F.mkvK_e
  (And.intro @RB.F.starD1_e
  (And.intro @RB.F.wGet1_e
  (And.intro @RB.F.get1K_e
  (And.intro @RB.F.get1K2_s
  (And.intro @RB.F.wRevS_e
  (And.intro @RB.F.revSK_s
  (And.intro @RB.F.wZipS_e
  (And.intro @RB.F.zipSK_s
  (And.intro @RB.F.bind_ok
  (And.intro @RB.F.bind_ex
  (And.intro @RB.F.bind_bad
  (And.intro @RB.F.st_ok
  (And.intro @RB.F.st_ex
  (And.intro @RB.F.st_bad
  (And.intro @RB.F.seq_nx
  (And.intro @RB.F.seq_rt
  (And.intro @RB.F.seq_bk
  (And.intro @RB.F.seq_ct
  (And.intro @RB.F.seq_ex
  (And.intro @RB.F.seq_bad
  (And.intro @RB.F.fin_nx
  (And.intro @RB.F.fin_rt
  (And.intro @RB.F.fin_ex
  (And.intro @RB.F.try_ex
  (And.intro @RB.F.try_nx
  (And.intro @RB.F.try_rt
  (And.intro @RB.F.gone_nx
  (And.intro @RB.F.gone_rt
  (And.intro @RB.F.chk_true
  (And.intro @RB.F.chkA_true
  (And.intro @RB.F.more_nx
  (And.intro @RB.F.more_ct
  (And.intro @RB.F.more_bk
  (And.intro @RB.F.more_rt
  (And.intro @RB.F.more_ex
  (And.intro @RB.F.forF_nil
  (And.intro @RB.F.forF_cons
  (And.intro @RB.F.b1_1
  (And.intro @RB.F.b2_2
  (And.intro @RB.F.dInt.eq_1
  (And.intro @RB.F.dInt.eq_2
  (And.intro @RB.F.dAdd_i
  (And.intro @RB.F.dAdd_s
  (And.intro @RB.F.dAdd_t
  (And.intro @RB.F.dAdd_l
  (And.intro @RB.F.dAdd_cl
  (And.intro @RB.F.dAdd_lc
  (And.intro @RB.F.addL_s
  (And.intro @RB.F.dNeg.eq_1
  (And.intro @RB.F.dNeg.eq_2
  (And.intro @RB.F.dToInt.eq_1
  (And.intro @RB.F.dToInt.eq_2
  (And.intro @RB.F.dToInt.eq_3
  (And.intro @RB.F.dI1.eq_1
  (And.intro @RB.F.dI1.eq_2
  (And.intro @RB.F.dIsN.eq_1
  (And.intro @RB.F.dIsN.eq_2
  (And.intro @RB.F.dIsN.eq_3
  (And.intro @RB.F.dIsN.eq_4
  (And.intro @RB.isNon.eq_1
  (And.intro @RB.isNon.eq_2
  (And.intro @RB.F.dLen_s
  (And.intro @RB.F.dLen_t
  (And.intro @RB.F.dLen_l
  (And.intro @RB.F.dLen_r
  (And.intro @RB.F.dLen_c
  (And.intro @RB.F.lenL_s
  (And.intro @RB.F.dQ1.eq_1
  (And.intro @RB.F.dIsi.eq_1
  (And.intro @RB.F.dIsi.eq_2
  (And.intro @RB.F.dIx_s
  (And.intro @RB.F.dIx_t
  (And.intro @RB.F.dIx_l
  (And.intro @RB.F.dIx_r
  (And.intro @RB.F.dIx_c
  (And.intro @RB.F.ixO_s
  (And.intro @RB.F.ixC_s
  (And.intro @RB.F.ixL_s
  (And.intro @RB.F.dMul.eq_1
  (And.intro @RB.F.dMul.eq_2
  (And.intro @RB.F.dMul.eq_3
  (And.intro @RB.F.dLPut.eq_1
  (And.intro @RB.F.dLPut.eq_2
  (And.intro @RB.F.dFSet.eq_1
  (And.intro @RB.F.dFSet.eq_2
  (And.intro @RB.F.dIsK.eq_1
  (And.intro @RB.F.dAppend.eq_1
  (And.intro @RB.F.dAppend.eq_2
  (And.intro @RB.F.dSl_s
  (And.intro @RB.F.dSl_t
  (And.intro @RB.F.dSl_l
  (And.intro @RB.F.dSl_r
  (And.intro @RB.F.dSl_c
  (And.intro @RB.F.slL_s
  (And.intro @RB.F.dBls.eq_1
  (And.intro @RB.F.dSum.eq_1
  (And.intro @RB.F.dJoin_e
  (And.intro @RB.F.joinO_s
  (And.intro @RB.F.dInS.eq_1
  (And.intro @RB.F.dInS.eq_2
  (And.intro @RB.F.frz.eq_1
  (And.intro @RB.F.frz.eq_2
  (And.intro @RB.F.frz.eq_3
  (And.intro @RB.F.mkF_ex
  (And.intro @RB.F.mkF_ok
  (And.intro @RB.allP.eq_1
  (And.intro @RB.allP.eq_2
  (And.intro @RB.allP.eq_3
  (And.intro @RB.allP.eq_4
  (And.intro @RB.F.asL_l
  (And.intro @RB.F.asL_r
  (And.intro @RB.F.asL_c
  (And.intro @RB.F.asL_t
  (And.intro @RB.F.asL_z
  (And.intro @RB.F.asL_n
  (And.intro @RB.F.asL_i
  (And.intro @RB.F.asL_b
  (And.intro @RB.F.asL_d
  (And.intro @RB.F.cellL_s
  (And.intro @RB.F.asQ_t
  (And.intro @RB.F.asQ_l
  (And.intro @RB.F.asQ_r
  (And.intro @RB.F.asQ_c
  (And.intro @RB.F.asM_l
  (And.intro @RB.F.asM_c
  (And.intro @RB.itemsOf.eq_1
  (And.intro @RB.itemsOf.eq_2
  (And.intro @RB.itemsOf.eq_3
  (And.intro @RB.itemsOf.eq_4
  (And.intro @RB.itemsOf.eq_5
  (And.intro @RB.tyS.eq_1
  (And.intro @RB.tyS.eq_2
  (And.intro @RB.tyS.eq_3
  (And.intro @RB.tyS.eq_4
  (And.intro @RB.tyS.eq_5
  (And.intro @RB.tyS.eq_6
  (And.intro @RB.tyS.eq_7
  (And.intro @RB.tyS.eq_8
  (And.intro @RB.tyS.eq_9
  (And.intro @RB.tyS.eq_10
  (And.intro @RB.isB.eq_1
  (And.intro @RB.keyOf.eq_1
  (And.intro @RB.keyOf.eq_2
  (And.intro @RB.keyOf.eq_3
  (And.intro @RB.seqD.eq_1
  (And.intro @RB.seqD.eq_2
  (And.intro @RB.seqD.eq_3
  (And.intro @RB.seqD.eq_4
  (And.intro @RB.tyN.eq_1
  (And.intro @RB.kvsOf.eq_1
  (And.intro @RB.kvsOf.eq_2
  (And.intro @RB.kvsOf.eq_3
  (And.intro @RB.kvsOf.eq_4
  (And.intro @RB.zipP.eq_1
  (And.intro @RB.zipP.eq_2
  (And.intro @RB.zipP.eq_3
  (And.intro @RB.bindT.eq_1
  (And.intro @RB.bindT.eq_2
  (And.intro @RB.bindT.eq_3
  (And.intro @RB.setAll.eq_1
  (And.intro @RB.setAll.eq_2
  (And.intro @RB.wipeR.eq_1
  (And.intro @RB.wipeR.eq_2
  (And.intro @RB.F.cut_p
  (And.intro @RB.F.take_len
  (And.intro @RB.F.get_app
  (And.intro @RB.F.set_app
  (And.intro @RB.F.take_app
  (And.intro @RB.F.take_app2
  (And.intro @RB.F.take_len_cons
  (And.intro @RB.F.of_inj
  (And.intro @RB.fputN.eq_1
  (And.intro @RB.fputN.eq_2
  (And.intro @RB.fputV.eq_1
  (And.intro @RB.fputV.eq_2
  (And.intro @RB.flook.eq_1
  (And.intro @RB.flook.eq_2
  (And.intro @Bool.not_true
  (And.intro @Bool.not_false
  (And.intro @Bool.and_true
  (And.intro @Bool.true_and
  (And.intro @Bool.or_false
  (And.intro @Bool.false_or
  (And.intro @Bool.or_true
  (And.intro @Bool.true_or
  (And.intro @Bool.and_false
  (And.intro @Bool.false_and
  (And.intro @Bool.not_not
  (And.intro @decide_true
  (And.intro @decide_false
  (And.intro @Bool.false_eq_true
  (And.intro @and_self
  (And.intro @and_true
  (And.intro @true_and
  (And.intro @and_false
  (And.intro @false_and
  (And.intro @not_true_eq_false
  (And.intro @not_false_eq_true
  (And.intro @Bool.true_eq_false
  (And.intro @RB.F.sz
  (And.intro @RB.F.eq_ii
  (And.intro @RB.F.ne_ii
  (And.intro @RB.F.atI0
  (And.intro @RB.F.atI1
  (And.intro @RB.F.atI2
  (And.intro @RB.F.atI3
  (And.intro @RB.F.atI4
  (And.intro @RB.F.nat10
  (And.intro @RB.F.nat2
  (@RB.F.nat64))))))))))))))))))))))))))))))))))))))))))))))))))))))))))))))))))))))))))))))))))))))))))))))))))))))))))))))))))))))))))))))))))))))))))))))))))))))))))))))))))))))))))))))))))))))))))))))))))))))))))))))))))))))))))))))))))))))))))))))))))))))))))))))))))))))))))))))))))))))))))))))))))))))))))))))))))))))))))))))))))))))))))))))))))))))))))))))))))))))))))))))))))))))))))))))))))))))))))))))))))))))))))))))))))))))
def evo := And.intro @RB.F.dAttr.eq_1
  (And.intro @RB.F.methK.eq_1
  (And.intro @RB.objOf.eq_1
  (And.intro @RB.objOf.eq_2
  (@RB.objOf.eq_3))))
end RB.F
namespace RB.F
open PySem PySem.Spec PyProof.Rows L2 RB
abbrev cs_beds : List String := ["Column"]
abbrev csp_beds : List String := ["Column"]
abbrev cs_mark : List String := ["Column"]
abbrev csp_mark : List String := ["Column"]
abbrev cs_foot : List String := ["Column"]
abbrev csp_foot : List String := ["Column"]
abbrev cs_root : List String := ["Column"]
abbrev csp_root : List String := ["Column"]
abbrev cs_columns : List String := ["Section"]
abbrev csp_columns : List String := ["Section"]
abbrev cs_top : List String := ["Column"]
abbrev csp_top : List String := ["Column"]
abbrev cs_width : List String := ["WrongWidth"]
abbrev csp_width : List String := []
abbrev cs_value : List String := ["InvalidName", "InvalidLevel", "InvalidBeds", "InvalidColumns"]
abbrev csp_value : List String := []
abbrev ccs_MOST_COLUMNS : List String := ["Section"]
def exm_InvalidColumns : String → Bool := fun y => y == "InvalidColumns"
def exm_WrongWidth : String → Bool := fun y => y == "WrongWidth"
abbrev kinds : List String := ["Column", "Section", "InvalidName", "InvalidLevel", "InvalidBeds", "InvalidColumns", "WrongWidth", "NoneType", "bool", "int", "str", "tuple", "list", "dict"]
def is_Column : String → Bool := fun y => y == "Column"
def is_Section : String → Bool := fun y => y == "Section"
def is_ValueError : String → Bool := fun y => y == "InvalidName" || y == "InvalidLevel" || y == "InvalidBeds" || y == "InvalidColumns" || y == "WrongWidth"
abbrev gbd_Column_2_root_mark : List D → List D → List D := fun ds es => ds ++ (pk 0 es ++ (pk 1 es))
abbrev gbd_Section_1 : List D → List D → List D := fun ds es => ds
abbrev gbd_Section_0_columns : List D → List D → List D := fun ds es => ds ++ (pk 0 es)
abbrev gbd_Column_1 : List D → List D → List D := fun ds es => ds ++ ([.p (.tup [])] ++ ([.p .non] ++ ([.p .non])))
abbrev gbd_Column_0 : List D → List D → List D := fun ds es => ds ++ ([.p (.int 0)] ++ ([.p (.tup [])] ++ ([.p .non] ++ ([.p .non]))))
abbrev gbdm_Section_flat_width : List D → List D → List D := fun ds es => ds ++ (pk 0 es)
def top (i : Nat) : Stmt := PySem.Challenge.pw_rockbeds_k09_sections_made_and_refused.main.body.getD i (.Pass ⟨0, 0, 0, 0⟩)
abbrev s_is_name : Stmt := top 14
abbrev s_is_level : Stmt := top 15
abbrev s_need_name : Stmt := top 16
abbrev s_need_level : Stmt := top 17
abbrev s_is_bed : Stmt := top 19
abbrev s_is_same_bed : Stmt := top 20
abbrev s_are_beds : Stmt := top 21
abbrev s_need_width : Stmt := top 34
abbrev s__law_draw : Stmt := top 44
abbrev s__law_pick : Stmt := top 45
abbrev s__law_names : Stmt := top 46
abbrev s__law_level : Stmt := top 47
abbrev s__law_pool : Stmt := top 48
abbrev s__law_layers : Stmt := top 49
abbrev s__law_column : Stmt := top 50
abbrev s__law_built : Stmt := top 51
abbrev s__law_told_column : Stmt := top 52
abbrev s__law_any : Stmt := top 53
abbrev s__law_is_int : Stmt := top 54
abbrev s_law : Stmt := top 56
abbrev s_Column___init__ : Stmt := clsStmt (top 22) 0
abbrev s_Column___eq__ : Stmt := clsStmt (top 22) 1
abbrev s_Section___init__ : Stmt := clsStmt (top 41) 1
abbrev s_Section___eq__ : Stmt := clsStmt (top 41) 2
abbrev s_Section_flat : Stmt := clsStmt (top 41) 8
abbrev s__law_pick__2 : Stmt := top 45
abbrev s__law_feed__2 : Stmt := top 43
abbrev s__law_caught__2 : Stmt := top 55
abbrev si_InvalidName : Stmt := clsStmt (top 2) 0
abbrev si_InvalidLevel : Stmt := clsStmt (top 3) 0
abbrev si_InvalidBeds : Stmt := clsStmt (top 4) 0
abbrev si_InvalidColumns : Stmt := clsStmt (top 5) 0
abbrev si_WrongWidth : Stmt := clsStmt (top 6) 0
abbrev file0 : Str := PySem.Challenge.pw_rockbeds_k09_sections_made_and_refused.main.file
structure PFile (P : Program) : Prop where
  file : ((P.main.file : Str) == file0) = true
  top : (P.main.scope.names.lookup ("super" : Str)).isSome = false
def dd_is_name : He.DefD := ⟨((Str.ofString "is_name"), none), (Str.ofString "is_name"), (Str.ofString "is_name"), defArgs s_is_name, defBody s_is_name, defScope s_is_name, [], []⟩
def dd_is_level : He.DefD := ⟨((Str.ofString "is_level"), none), (Str.ofString "is_level"), (Str.ofString "is_level"), defArgs s_is_level, defBody s_is_level, defScope s_is_level, [], []⟩
def dd_need_name : He.DefD := ⟨((Str.ofString "need_name"), none), (Str.ofString "need_name"), (Str.ofString "need_name"), defArgs s_need_name, defBody s_need_name, defScope s_need_name, [], []⟩
def dd_need_level : He.DefD := ⟨((Str.ofString "need_level"), none), (Str.ofString "need_level"), (Str.ofString "need_level"), defArgs s_need_level, defBody s_need_level, defScope s_need_level, [], []⟩
def dd_is_bed : He.DefD := ⟨((Str.ofString "is_bed"), none), (Str.ofString "is_bed"), (Str.ofString "is_bed"), defArgs s_is_bed, defBody s_is_bed, defScope s_is_bed, [], []⟩
def dd_is_same_bed : He.DefD := ⟨((Str.ofString "is_same_bed"), none), (Str.ofString "is_same_bed"), (Str.ofString "is_same_bed"), defArgs s_is_same_bed, defBody s_is_same_bed, defScope s_is_same_bed, [], []⟩
def dd_are_beds : He.DefD := ⟨((Str.ofString "are_beds"), none), (Str.ofString "are_beds"), (Str.ofString "are_beds"), defArgs s_are_beds, defBody s_are_beds, defScope s_are_beds, [], []⟩
def dd_need_width : He.DefD := ⟨((Str.ofString "need_width"), none), (Str.ofString "need_width"), (Str.ofString "need_width"), defArgs s_need_width, defBody s_need_width, defScope s_need_width, [], []⟩
def dd__law_draw : He.DefD := ⟨((Str.ofString "_law_draw"), none), (Str.ofString "_law_draw"), (Str.ofString "_law_draw"), defArgs s__law_draw, defBody s__law_draw, defScope s__law_draw, [], []⟩
def dd__law_pick : He.DefD := ⟨((Str.ofString "_law_pick"), none), (Str.ofString "_law_pick"), (Str.ofString "_law_pick"), defArgs s__law_pick, defBody s__law_pick, defScope s__law_pick, [], []⟩
def dd__law_names : He.DefD := ⟨((Str.ofString "_law_names"), none), (Str.ofString "_law_names"), (Str.ofString "_law_names"), defArgs s__law_names, defBody s__law_names, defScope s__law_names, [], []⟩
def dd__law_level : He.DefD := ⟨((Str.ofString "_law_level"), none), (Str.ofString "_law_level"), (Str.ofString "_law_level"), defArgs s__law_level, defBody s__law_level, defScope s__law_level, [], []⟩
def dd__law_pool : He.DefD := ⟨((Str.ofString "_law_pool"), none), (Str.ofString "_law_pool"), (Str.ofString "_law_pool"), defArgs s__law_pool, defBody s__law_pool, defScope s__law_pool, [], []⟩
def dd__law_layers : He.DefD := ⟨((Str.ofString "_law_layers"), none), (Str.ofString "_law_layers"), (Str.ofString "_law_layers"), defArgs s__law_layers, defBody s__law_layers, defScope s__law_layers, [], []⟩
def dd__law_column : He.DefD := ⟨((Str.ofString "_law_column"), none), (Str.ofString "_law_column"), (Str.ofString "_law_column"), defArgs s__law_column, defBody s__law_column, defScope s__law_column, [], []⟩
def dd__law_built : He.DefD := ⟨((Str.ofString "_law_built"), none), (Str.ofString "_law_built"), (Str.ofString "_law_built"), defArgs s__law_built, defBody s__law_built, defScope s__law_built, [], []⟩
def dd__law_told_column : He.DefD := ⟨((Str.ofString "_law_told_column"), none), (Str.ofString "_law_told_column"), (Str.ofString "_law_told_column"), defArgs s__law_told_column, defBody s__law_told_column, defScope s__law_told_column, [], []⟩
def dd__law_any : He.DefD := ⟨((Str.ofString "_law_any"), none), (Str.ofString "_law_any"), (Str.ofString "_law_any"), defArgs s__law_any, defBody s__law_any, defScope s__law_any, [], []⟩
def dd__law_is_int : He.DefD := ⟨((Str.ofString "_law_is_int"), none), (Str.ofString "_law_is_int"), (Str.ofString "_law_is_int"), defArgs s__law_is_int, defBody s__law_is_int, defScope s__law_is_int, [], []⟩
def dd_law : He.DefD := ⟨((Str.ofString "law"), none), (Str.ofString "law"), (Str.ofString "law"), defArgs s_law, defBody s_law, defScope s_law, [], []⟩
def dd_Column___init__ : He.DefD := ⟨((Str.ofString "Column"), some (Str.ofString "__init__")), (Str.ofString "__init__"), (Str.ofString "Column.__init__"), defArgs s_Column___init__, defBody s_Column___init__, defScope s_Column___init__, [.int 0, .adr (He.dflAt ((Str.ofString "Column"), some (Str.ofString "__init__")) 1)], [((Str.ofString "root"), .non), ((Str.ofString "mark"), .non)]⟩
def dd_Column___eq__ : He.DefD := ⟨((Str.ofString "Column"), some (Str.ofString "__eq__")), (Str.ofString "__eq__"), (Str.ofString "Column.__eq__"), defArgs s_Column___eq__, defBody s_Column___eq__, defScope s_Column___eq__, [], []⟩
def dd_Section___init__ : He.DefD := ⟨((Str.ofString "Section"), some (Str.ofString "__init__")), (Str.ofString "__init__"), (Str.ofString "Section.__init__"), defArgs s_Section___init__, defBody s_Section___init__, defScope s_Section___init__, [], []⟩
def dd_Section___eq__ : He.DefD := ⟨((Str.ofString "Section"), some (Str.ofString "__eq__")), (Str.ofString "__eq__"), (Str.ofString "Section.__eq__"), defArgs s_Section___eq__, defBody s_Section___eq__, defScope s_Section___eq__, [], []⟩
def dd_Section_flat : He.DefD := ⟨((Str.ofString "Section"), some (Str.ofString "flat")), (Str.ofString "flat"), (Str.ofString "Section.flat"), defArgs s_Section_flat, defBody s_Section_flat, defScope s_Section_flat, [], []⟩
def dd__law_pick__2 : He.DefD := ⟨((Str.ofString "_law_pick"), none), (Str.ofString "_law_pick"), (Str.ofString "_law_pick"), defArgs s__law_pick__2, defBody s__law_pick__2, defScope s__law_pick__2, [], []⟩
def dd__law_feed__2 : He.DefD := ⟨((Str.ofString "_law_feed"), none), (Str.ofString "_law_feed"), (Str.ofString "_law_feed"), defArgs s__law_feed__2, defBody s__law_feed__2, defScope s__law_feed__2, [], []⟩
def dd__law_caught__2 : He.DefD := ⟨((Str.ofString "_law_caught"), none), (Str.ofString "_law_caught"), (Str.ofString "_law_caught"), defArgs s__law_caught__2, defBody s__law_caught__2, defScope s__law_caught__2, [], []⟩
def ddi_InvalidName : He.DefD := ⟨((Str.ofString "InvalidName"), some (Str.ofString "__init__")), (Str.ofString "__init__"), (Str.ofString "InvalidName.__init__"), defArgs si_InvalidName, defBody si_InvalidName, defScope si_InvalidName, [], []⟩
def ddi_InvalidLevel : He.DefD := ⟨((Str.ofString "InvalidLevel"), some (Str.ofString "__init__")), (Str.ofString "__init__"), (Str.ofString "InvalidLevel.__init__"), defArgs si_InvalidLevel, defBody si_InvalidLevel, defScope si_InvalidLevel, [], []⟩
def ddi_InvalidBeds : He.DefD := ⟨((Str.ofString "InvalidBeds"), some (Str.ofString "__init__")), (Str.ofString "__init__"), (Str.ofString "InvalidBeds.__init__"), defArgs si_InvalidBeds, defBody si_InvalidBeds, defScope si_InvalidBeds, [], []⟩
def ddi_InvalidColumns : He.DefD := ⟨((Str.ofString "InvalidColumns"), some (Str.ofString "__init__")), (Str.ofString "__init__"), (Str.ofString "InvalidColumns.__init__"), defArgs si_InvalidColumns, defBody si_InvalidColumns, defScope si_InvalidColumns, [], []⟩
def ddi_WrongWidth : He.DefD := ⟨((Str.ofString "WrongWidth"), some (Str.ofString "__init__")), (Str.ofString "__init__"), (Str.ofString "WrongWidth.__init__"), defArgs si_WrongWidth, defBody si_WrongWidth, defScope si_WrongWidth, [], []⟩
def sdl : List (He.DefD × Str) := [(dd_Section_flat, Str.empty)]
def fn : List He.DefD := [dd_is_name, dd_is_level, dd_need_name, dd_need_level, dd_is_bed, dd_is_same_bed, dd_are_beds, dd_need_width, dd__law_draw, dd__law_pick, dd__law_names, dd__law_level, dd__law_pool, dd__law_layers, dd__law_column, dd__law_built, dd__law_told_column, dd__law_any, dd__law_is_int, dd_law, dd_Column___init__, dd_Column___eq__, dd_Section___init__, dd_Section___eq__, dd__law_pick__2, dd__law_feed__2, dd__law_caught__2, ddi_InvalidName, ddi_InvalidLevel, ddi_InvalidBeds, ddi_InvalidColumns, ddi_WrongWidth]
def fa : List He.Fa := [.glo (Str.ofString "is_name"), .glo (Str.ofString "is_level"), .glo (Str.ofString "need_name"), .glo (Str.ofString "need_level"), .glo (Str.ofString "is_bed"), .glo (Str.ofString "is_same_bed"), .glo (Str.ofString "are_beds"), .glo (Str.ofString "need_width"), .glo (Str.ofString "_law_draw"), .glo (Str.ofString "_law_pick"), .glo (Str.ofString "_law_names"), .glo (Str.ofString "_law_level"), .glo (Str.ofString "_law_pool"), .glo (Str.ofString "_law_layers"), .glo (Str.ofString "_law_column"), .glo (Str.ofString "_law_built"), .glo (Str.ofString "_law_told_column"), .glo (Str.ofString "_law_any"), .glo (Str.ofString "_law_is_int"), .glo (Str.ofString "law"), .glo (Str.ofString "_law_pick"), .glo (Str.ofString "_law_feed"), .glo (Str.ofString "_law_caught"), .glo (Str.ofString "InvalidName"), .glo (Str.ofString "InvalidLevel"), .glo (Str.ofString "InvalidBeds"), .glo (Str.ofString "InvalidColumns"), .glo (Str.ofString "WrongWidth"), .glo (Str.ofString "Column"), .glo (Str.ofString "Section"), .free (Str.ofString "ValueError"), .free (Str.ofString "abs"), .free (Str.ofString "all"), .free (Str.ofString "any"), .free (Str.ofString "bool"), .free (Str.ofString "int"), .free (Str.ofString "isinstance"), .free (Str.ofString "len"), .free (Str.ofString "list"), .free (Str.ofString "min"), .free (Str.ofString "range"), .free (Str.ofString "repr"), .free (Str.ofString "str"), .free (Str.ofString "sum"), .free (Str.ofString "tuple"), .free (Str.ofString "zip"), .str (Str.ofString "LETTERS") (Str.ofString "abcdefghijklmnopqrstuvwxyz"), .int (Str.ofString "LONGEST_NAME") 8, .str (Str.ofString "DIGITS") (Str.ofString "0123456789"), .int (Str.ofString "MOST_DIGITS") 60, .int (Str.ofString "MOST_COLUMNS") 12, .str (Str.ofString "MARK") (Str.ofString "~"), .str (Str.ofString "ROOT") (Str.ofString "#"), .str (Str.ofString "THICKNESS") (Str.ofString ":"), .cls (Str.ofString "Column"), .mkr (Str.ofString "Column"), .cls (Str.ofString "Section"), .mkr (Str.ofString "Section"), .meth (Str.ofString "Column") (Str.ofString "__eq__"), .meth (Str.ofString "Section") (Str.ofString "__eq__"), .exm (Str.ofString "InvalidName") (Str.ofString "InvalidColumns") false, .exm (Str.ofString "InvalidLevel") (Str.ofString "InvalidColumns") false, .exm (Str.ofString "InvalidBeds") (Str.ofString "InvalidColumns") false, .exm (Str.ofString "InvalidColumns") (Str.ofString "InvalidColumns") true, .exm (Str.ofString "WrongWidth") (Str.ofString "InvalidColumns") false, .exm (Str.ofString "Column") (Str.ofString "InvalidColumns") false, .exm (Str.ofString "Section") (Str.ofString "InvalidColumns") false, .exm (Str.ofString "InvalidName") (Str.ofString "WrongWidth") false, .exm (Str.ofString "InvalidLevel") (Str.ofString "WrongWidth") false, .exm (Str.ofString "InvalidBeds") (Str.ofString "WrongWidth") false, .exm (Str.ofString "InvalidColumns") (Str.ofString "WrongWidth") false, .exm (Str.ofString "WrongWidth") (Str.ofString "WrongWidth") true, .exm (Str.ofString "Column") (Str.ofString "WrongWidth") false, .exm (Str.ofString "Section") (Str.ofString "WrongWidth") false, .noat (Str.ofString "Column") (Str.ofString "beds"), .noat (Str.ofString "Column") (Str.ofString "mark"), .noat (Str.ofString "Column") (Str.ofString "foot"), .noat (Str.ofString "Column") (Str.ofString "root"), .noat (Str.ofString "Section") (Str.ofString "columns"), .noat (Str.ofString "Column") (Str.ofString "top"), .noat (Str.ofString "WrongWidth") (Str.ofString "width"), .noat (Str.ofString "InvalidName") (Str.ofString "value"), .noat (Str.ofString "InvalidLevel") (Str.ofString "value"), .noat (Str.ofString "InvalidBeds") (Str.ofString "value"), .noat (Str.ofString "InvalidColumns") (Str.ofString "value")]
def clsT (K : PySem.W.Frag) : String → Option Addr := fun c => if c = "InvalidName" then some (He.ga K (Str.ofString "InvalidName")) else if c = "InvalidLevel" then some (He.ga K (Str.ofString "InvalidLevel")) else if c = "InvalidBeds" then some (He.ga K (Str.ofString "InvalidBeds")) else if c = "InvalidColumns" then some (He.ga K (Str.ofString "InvalidColumns")) else if c = "WrongWidth" then some (He.ga K (Str.ofString "WrongWidth")) else if c = "Column" then some (He.ga K (Str.ofString "Column")) else if c = "Section" then some (He.ga K (Str.ofString "Section")) else none
def isET : String → Bool := fun c => c == "InvalidName" || c == "InvalidLevel" || c == "InvalidBeds" || c == "InvalidColumns" || c == "WrongWidth"
theorem ie_InvalidName : isET "InvalidName" = true := by decide
theorem ie_InvalidLevel : isET "InvalidLevel" = true := by decide
theorem ie_InvalidBeds : isET "InvalidBeds" = true := by decide
theorem ie_InvalidColumns : isET "InvalidColumns" = true := by decide
theorem ie_WrongWidth : isET "WrongWidth" = true := by decide
theorem ie_Column : isET "Column" = false := by decide
theorem ie_Section : isET "Section" = false := by decide
theorem clsT_cases {K : PySem.W.Frag} {c : String} {C : Addr} (h : clsT K c = some C) : (c = "InvalidName" ∧ (He.ga K (Str.ofString "InvalidName")) = C) ∨ (c = "InvalidLevel" ∧ (He.ga K (Str.ofString "InvalidLevel")) = C) ∨ (c = "InvalidBeds" ∧ (He.ga K (Str.ofString "InvalidBeds")) = C) ∨ (c = "InvalidColumns" ∧ (He.ga K (Str.ofString "InvalidColumns")) = C) ∨ (c = "WrongWidth" ∧ (He.ga K (Str.ofString "WrongWidth")) = C) ∨ (c = "Column" ∧ (He.ga K (Str.ofString "Column")) = C) ∨ (c = "Section" ∧ (He.ga K (Str.ofString "Section")) = C) := by
  unfold clsT at h
  by_cases y : c = "InvalidName"
  · rw [if_pos y] at h
    exact Or.inl ⟨y, Option.some.inj h⟩
  rw [if_neg y] at h
  by_cases y : c = "InvalidLevel"
  · rw [if_pos y] at h
    exact Or.inr (Or.inl ⟨y, Option.some.inj h⟩)
  rw [if_neg y] at h
  by_cases y : c = "InvalidBeds"
  · rw [if_pos y] at h
    exact Or.inr (Or.inr (Or.inl ⟨y, Option.some.inj h⟩))
  rw [if_neg y] at h
  by_cases y : c = "InvalidColumns"
  · rw [if_pos y] at h
    exact Or.inr (Or.inr (Or.inr (Or.inl ⟨y, Option.some.inj h⟩)))
  rw [if_neg y] at h
  by_cases y : c = "WrongWidth"
  · rw [if_pos y] at h
    exact Or.inr (Or.inr (Or.inr (Or.inr (Or.inl ⟨y, Option.some.inj h⟩))))
  rw [if_neg y] at h
  by_cases y : c = "Column"
  · rw [if_pos y] at h
    exact Or.inr (Or.inr (Or.inr (Or.inr (Or.inr (Or.inl ⟨y, Option.some.inj h⟩)))))
  rw [if_neg y] at h
  by_cases y : c = "Section"
  · rw [if_pos y] at h
    exact Or.inr (Or.inr (Or.inr (Or.inr (Or.inr (Or.inr (⟨y, Option.some.inj h⟩))))))
  rw [if_neg y] at h
  cases h
def cks (K : PySem.W.Frag) : List Bool := [exB K (Str.ofString "InvalidName") [(Str.ofString "value")], xfB K (He.ga K (Str.ofString "InvalidName")), exB K (Str.ofString "InvalidLevel") [(Str.ofString "value")], xfB K (He.ga K (Str.ofString "InvalidLevel")), exB K (Str.ofString "InvalidBeds") [(Str.ofString "value")], xfB K (He.ga K (Str.ofString "InvalidBeds")), exB K (Str.ofString "InvalidColumns") [(Str.ofString "value")], xfB K (He.ga K (Str.ofString "InvalidColumns")), exB K (Str.ofString "WrongWidth") [(Str.ofString "width")], xfB K (He.ga K (Str.ofString "WrongWidth")), tupEB K (He.dflAt ((Str.ofString "Column"), some (Str.ofString "__init__")) 1 K), iscB K (He.ga K (Str.ofString "Column")), iscB K (He.ga K (Str.ofString "Section")), iscB K (He.ga K (Str.ofString "InvalidName")), iscB K (He.ga K (Str.ofString "InvalidLevel")), iscB K (He.ga K (Str.ofString "InvalidBeds")), iscB K (He.ga K (Str.ofString "InvalidColumns")), iscB K (He.ga K (Str.ofString "WrongWidth")), kitB K (.ref (He.ga K (Str.ofString "Column"))) (.ref (He.ga K (Str.ofString "Column"))) (is_Column "Column"), kitB K (.ref (He.ga K (Str.ofString "Section"))) (.ref (He.ga K (Str.ofString "Column"))) (is_Column "Section"), kitB K (.ref (He.ga K (Str.ofString "InvalidName"))) (.ref (He.ga K (Str.ofString "Column"))) (is_Column "InvalidName"), kitB K (.ref (He.ga K (Str.ofString "InvalidLevel"))) (.ref (He.ga K (Str.ofString "Column"))) (is_Column "InvalidLevel"), kitB K (.ref (He.ga K (Str.ofString "InvalidBeds"))) (.ref (He.ga K (Str.ofString "Column"))) (is_Column "InvalidBeds"), kitB K (.ref (He.ga K (Str.ofString "InvalidColumns"))) (.ref (He.ga K (Str.ofString "Column"))) (is_Column "InvalidColumns"), kitB K (.ref (He.ga K (Str.ofString "WrongWidth"))) (.ref (He.ga K (Str.ofString "Column"))) (is_Column "WrongWidth"), bltB K (.ref (He.ga K (Str.ofString "Column"))) is_Column, kitB K (.ref (He.ga K (Str.ofString "Column"))) (.ref (He.ga K (Str.ofString "Section"))) (is_Section "Column"), kitB K (.ref (He.ga K (Str.ofString "Section"))) (.ref (He.ga K (Str.ofString "Section"))) (is_Section "Section"), kitB K (.ref (He.ga K (Str.ofString "InvalidName"))) (.ref (He.ga K (Str.ofString "Section"))) (is_Section "InvalidName"), kitB K (.ref (He.ga K (Str.ofString "InvalidLevel"))) (.ref (He.ga K (Str.ofString "Section"))) (is_Section "InvalidLevel"), kitB K (.ref (He.ga K (Str.ofString "InvalidBeds"))) (.ref (He.ga K (Str.ofString "Section"))) (is_Section "InvalidBeds"), kitB K (.ref (He.ga K (Str.ofString "InvalidColumns"))) (.ref (He.ga K (Str.ofString "Section"))) (is_Section "InvalidColumns"), kitB K (.ref (He.ga K (Str.ofString "WrongWidth"))) (.ref (He.ga K (Str.ofString "Section"))) (is_Section "WrongWidth"), bltB K (.ref (He.ga K (Str.ofString "Section"))) is_Section, kitB K (.ref (He.ga K (Str.ofString "Column"))) (.type "ValueError") (is_ValueError "Column"), kitB K (.ref (He.ga K (Str.ofString "Section"))) (.type "ValueError") (is_ValueError "Section"), kitB K (.ref (He.ga K (Str.ofString "InvalidName"))) (.type "ValueError") (is_ValueError "InvalidName"), kitB K (.ref (He.ga K (Str.ofString "InvalidLevel"))) (.type "ValueError") (is_ValueError "InvalidLevel"), kitB K (.ref (He.ga K (Str.ofString "InvalidBeds"))) (.type "ValueError") (is_ValueError "InvalidBeds"), kitB K (.ref (He.ga K (Str.ofString "InvalidColumns"))) (.type "ValueError") (is_ValueError "InvalidColumns"), kitB K (.ref (He.ga K (Str.ofString "WrongWidth"))) (.type "ValueError") (is_ValueError "WrongWidth"), bltB K (.type "ValueError") is_ValueError, conB K (He.ga K (Str.ofString "Section")) (Str.ofString "MOST_COLUMNS") 12, creadB K (Str.ofString "Section"), cmetB K (Str.ofString "Section") (Str.ofString "flat"), cvalB K (Str.ofString "Section") (Str.ofString "MOST_COLUMNS") 12, neB K (He.ga K (Str.ofString "Column")), neB K (He.ga K (Str.ofString "Section"))]
def ck (K : PySem.W.Frag) : Bool := (cks K).all id
theorem ck_at {K : PySem.W.Frag} (h : ck K = true) (i : Nat) {b : Bool} (e : (cks K)[i]? = some b) : b = true := List.all_eq_true.mp h b (List.mem_of_getElem? e)
abbrev Rw : PySem.W.OpenRow := PySem.W.OpenLaw.row PySem.Challenge.rw_rockbeds_k09_sections_made_and_refused
def tds : List He.Tab := []
def mks : List (Str × Option Str) := [((Str.ofString "law"), none)]
def hdu : HdU := ⟨fa, fn, ck, sdl, tds, mks, file0⟩
abbrev hk : PySem.W.Hook := hookU 3000 hdu
def ob (s : PySem.W.SharedT) : AlU := obsUG 3000 hdu (HandSHeadRun.getT s)
theorem ob_eq (s : PySem.W.SharedT) : ob s = hk.obs s.abs := obsUG_eq (HandSHeadRun.getT_eq s)
def loose : List Str := ([(Str.ofString "_wall"), (Str.ofString "InvalidName"), (Str.ofString "InvalidLevel"), (Str.ofString "InvalidBeds"), (Str.ofString "InvalidColumns"), (Str.ofString "WrongWidth"), (Str.ofString "ParseError"), (Str.ofString "NoColumn"), (Str.ofString "NoPlace"), (Str.ofString "TooMany"), (Str.ofString "LETTERS"), (Str.ofString "LONGEST_NAME"), (Str.ofString "is_name"), (Str.ofString "is_level"), (Str.ofString "need_name"), (Str.ofString "need_level"), (Str.ofString "is_index"), (Str.ofString "is_bed"), (Str.ofString "is_same_bed"), (Str.ofString "are_beds"), (Str.ofString "Column"), (Str.ofString "DIGITS"), (Str.ofString "MOST_DIGITS"), (Str.ofString "number_in"), (Str.ofString "lines_in"), (Str.ofString "Words"), (Str.ofString "MOST_COLUMNS"), (Str.ofString "MARK"), (Str.ofString "ROOT"), (Str.ofString "THICKNESS")] : List Str) ++ ([(Str.ofString "need_width"), (Str.ofString "marked"), (Str.ofString "column_text"), (Str.ofString "parted"), (Str.ofString "foot_in"), (Str.ofString "bed_in"), (Str.ofString "column_in"), (Str.ofString "Section"), (Str.ofString "_law_feed"), (Str.ofString "_law_draw"), (Str.ofString "_law_pick"), (Str.ofString "_law_names"), (Str.ofString "_law_level"), (Str.ofString "_law_pool"), (Str.ofString "_law_layers"), (Str.ofString "_law_column"), (Str.ofString "_law_built"), (Str.ofString "_law_told_column"), (Str.ofString "_law_any"), (Str.ofString "_law_is_int"), (Str.ofString "_law_caught")] : List Str)
theorem run0 (w : World) : Run0 Rw (PySem.W.view Rw.prog [56]) 40000 loose w := by
  intro os
  kernel_rfl
theorem run1 (w : World) : Run1 Rw 3000 hdu 40000 w := by
  intro os
  kernel_rfl
theorem run2 (w : World) : Run2 Rw 3000 hdu 40000 w := by
  intro os
  kernel_rfl
theorem run3 (w : World) : Run3 Rw 3000 hdu 40000 w := by
  intro os
  kernel_rfl
theorem run4_0 (w : World) : Run4c Rw 3000 hdu 40000 19 0 w := by
  intro os
  kernel_rfl
theorem run4_1 (w : World) : Run4c Rw 3000 hdu 40000 19 1 w := by
  intro os
  kernel_rfl
theorem run4 (w : World) : Run4 Rw 3000 hdu 40000 w := run4_of (k := 19) (m := 2) (by decide) (by decide +kernel) fun i hi => match i, hi with | 0, _ => run4_0 w | 1, _ => run4_1 w | _ + 2, hj => absurd hj (by omega)
theorem run5_0 (w : World) : Run5c Rw 3000 hdu 40000 19 0 w := by
  intro os
  kernel_rfl
theorem run5_1 (w : World) : Run5c Rw 3000 hdu 40000 19 1 w := by
  intro os
  kernel_rfl
theorem run5 (w : World) : Run5 Rw 3000 hdu 40000 w := run5_of (k := 19) (m := 2) (by decide) (by decide +kernel) fun i hi => match i, hi with | 0, _ => run5_0 w | 1, _ => run5_1 w | _ + 2, hj => absurd hj (by omega)
theorem runA (w : World) : RunA Rw (PySem.W.view Rw.prog [56]) 3000 hdu 40000 loose w := run_split (run0 w) (run1 w) (run2 w) (run3 w) (run4 w) (run5 w)
theorem run (w : World) : HandSHeadRun.RunEq Rw (PySem.W.view Rw.prog [56]) hk ob 40000 loose w := runA w
noncomputable section
abbrev N_is_name : List Str := [(Str.ofString "value"), (Str.ofString "sign")]
abbrev ps_is_name : List Str := [(Str.ofString "value")]
def f_is_name_1 : FE := wBin (dInS false) (wVar 1) (wC (.p (.str (Str.ofString "abcdefghijklmnopqrstuvwxyz"))))
def f_is_name : FS :=
  (wSeq (wIfS (wOr (wNot (wTest (wCB (b2 dIsi) (wCons (wVar 0) (wCons (wC (.p (.ty "str"))) wNil))))) (wNot (wTest (wChain dLe dLe (wC (.p (.int 1))) (wCB (b1 dLen) (wCons (wVar 0) wNil)) (wC (.p (.int 8))))))) (wRet (wC (.p (.bl false)))) wNext)
  (wRet (wCB (b1 dAll) (wCons (wLC (wIt (wVar 0)) (.nm 1) wYes f_is_name_1 [1]) wNil))))
def m_is_name : FD := fnF N_is_name ps_is_name f_is_name
theorem m_is_name_e (a0 : D) (S : Store) : m_is_name [a0] S = finF S.length (f_is_name [some a0, none] S) := (rfl)
abbrev N_is_level : List Str := [(Str.ofString "value")]
abbrev ps_is_level : List Str := [(Str.ofString "value")]
def f_is_level : FS :=
  (wRet (wAndV (wCB (b2 dIsi) (wCons (wVar 0) (wCons (wC (.p (.ty "int"))) wNil))) (wNotV (wCB (b2 dIsi) (wCons (wVar 0) (wCons (wC (.p (.ty "bool"))) wNil))))))
def m_is_level : FD := fnF N_is_level ps_is_level f_is_level
theorem m_is_level_e (a0 : D) (S : Store) : m_is_level [a0] S = finF S.length (f_is_level [some a0] S) := (rfl)
abbrev N_need_name : List Str := [(Str.ofString "value")]
abbrev ps_need_name : List Str := [(Str.ofString "value")]
def f_need_name : FS :=
  (wIfS (wNot (wTest (wCall0 m_is_name (wCons (wVar 0) wNil)))) (wRaise "InvalidName" [(Str.ofString "value")] (wCons (wVar 0) wNil)) wNext)
def m_need_name : FD := fnF N_need_name ps_need_name f_need_name
theorem m_need_name_e (a0 : D) (S : Store) : m_need_name [a0] S = finF S.length (f_need_name [some a0] S) := (rfl)
abbrev N_need_level : List Str := [(Str.ofString "value")]
abbrev ps_need_level : List Str := [(Str.ofString "value")]
def f_need_level : FS :=
  (wIfS (wNot (wTest (wCall0 m_is_level (wCons (wVar 0) wNil)))) (wRaise "InvalidLevel" [(Str.ofString "value")] (wCons (wVar 0) wNil)) wNext)
def m_need_level : FD := fnF N_need_level ps_need_level f_need_level
theorem m_need_level_e (a0 : D) (S : Store) : m_need_level [a0] S = finF S.length (f_need_level [some a0] S) := (rfl)
abbrev N_is_bed : List Str := [(Str.ofString "value"), (Str.ofString "rock"), (Str.ofString "thickness"), (Str.ofString "mark")]
abbrev ps_is_bed : List Str := [(Str.ofString "value")]
def f_is_bed : FS :=
  (wSeq (wIfS (wOr (wNot (wTest (wCB (b2 dIsi) (wCons (wVar 0) (wCons (wC (.p (.ty "tuple"))) wNil))))) (wTest (wBin (dEqv true) (wCB (b1 dLen) (wCons (wVar 0) wNil)) (wC (.p (.int 3)))))) (wRet (wC (.p (.bl false)))) wNext)
  (wSeq (wAsgT [1, 2, 3] (wVar 0))
  (wRet (wAndV (wCall0 m_is_name (wCons (wVar 1) wNil)) (wAndV (wCall0 m_is_level (wCons (wVar 2) wNil)) (wAndV (wBin dGt (wVar 2) (wC (.p (.int 0)))) (wOrV (wBin (dIsN false) (wVar 3) (wC (.p .non))) (wCall0 m_is_name (wCons (wVar 3) wNil)))))))))
def m_is_bed : FD := fnF N_is_bed ps_is_bed f_is_bed
theorem m_is_bed_e (a0 : D) (S : Store) : m_is_bed [a0] S = finF S.length (f_is_bed [some a0, none, none, none] S) := (rfl)
abbrev N_is_same_bed : List Str := [(Str.ofString "lower"), (Str.ofString "upper")]
abbrev ps_is_same_bed : List Str := [(Str.ofString "lower"), (Str.ofString "upper")]
def f_is_same_bed : FS :=
  (wRet (wAndV (wBin (dEqv false) (wBin dIx (wVar 0) (wC (.p (.int 0)))) (wBin dIx (wVar 1) (wC (.p (.int 0))))) (wBin (dIsN false) (wBin dIx (wVar 0) (wC (.p (.int 2)))) (wC (.p .non)))))
def m_is_same_bed : FD := fnF N_is_same_bed ps_is_same_bed f_is_same_bed
theorem m_is_same_bed_e (a0 a1 : D) (S : Store) : m_is_same_bed [a0, a1] S = finF S.length (f_is_same_bed [some a0, some a1] S) := (rfl)
abbrev N_are_beds : List Str := [(Str.ofString "value"), (Str.ofString "bed"), (Str.ofString "lower"), (Str.ofString "upper")]
abbrev ps_are_beds : List Str := [(Str.ofString "value")]
def f_are_beds_1 : FE := wCall0 m_is_bed (wCons (wVar 1) wNil)
def f_are_beds_2 : FE := wCall0 m_is_same_bed (wCons (wVar 2) (wCons (wVar 3) wNil))
def f_are_beds : FS :=
  (wSeq (wIfS (wOr (wNot (wTest (wIsi2 "list" "tuple" (wVar 0)))) (wNot (wTest (wCB (b1 dAll) (wCons (wLC (wIt (wVar 0)) (.nm 1) wYes f_are_beds_1 [1]) wNil))))) (wRet (wC (.p (.bl false)))) wNext)
  (wRet (wNotV (wCB (b1 dAny) (wCons (wLC (wZip (wCons (wVar 0) (wCons (wSl (wVar 0) (wPart (wC (.p (.int 1)))) wNoP) wNil))) (.tp [2, 3]) wYes f_are_beds_2 [2, 3]) wNil)))))
def m_are_beds : FD := fnF N_are_beds ps_are_beds f_are_beds
theorem m_are_beds_e (a0 : D) (S : Store) : m_are_beds [a0] S = finF S.length (f_are_beds [some a0, none, none, none] S) := (rfl)
abbrev N_need_width : List Str := [(Str.ofString "value")]
abbrev ps_need_width : List Str := [(Str.ofString "value")]
def f_need_width : FS :=
  (wIfS (wOr (wNot (wTest (wCall0 m_is_level (wCons (wVar 0) wNil)))) (wNot (wTest (wChain dLe dLe (wC (.p (.int 1))) (wVar 0) (wC (.p (.int 12))))))) (wRaise "WrongWidth" [(Str.ofString "width")] (wCons (wVar 0) wNil)) wNext)
def m_need_width : FD := fnF N_need_width ps_need_width f_need_width
theorem m_need_width_e (a0 : D) (S : Store) : m_need_width [a0] S = finF S.length (f_need_width [some a0] S) := (rfl)
abbrev N__law_draw : List Str := [(Str.ofString "_law_feed_here"), (Str.ofString "_law_many"), (Str.ofString "_law_at"), (Str.ofString "_law_cell"), (Str.ofString "_law_primes"), (Str.ofString "_law_prime"), (Str.ofString "_law_mixed"), (Str.ofString "_law_digit")]
abbrev ps__law_draw : List Str := [(Str.ofString "_law_feed_here"), (Str.ofString "_law_many")]
def f__law_draw : FS :=
  (wSeq (wIfS (wTest (wBin dGt (wBin dDGet (wVar 0) (wC (.p (.str (Str.ofString "left"))))) (wC (.p (.int 0))))) (wSeq (wSet 7 (wBin dMod (wCB (b1 dToInt) (wCons (wBin dDGet (wVar 0) (wC (.p (.str (Str.ofString "left"))))) wNil)) (wVar 1)))
  (wSeq (wDPut (wVar 0) (wC (.p (.str (Str.ofString "left")))) (wBin dFdiv (wBin dDGet (wVar 0) (wC (.p (.str (Str.ofString "left"))))) (wVar 1)))
  (wRet (wVar 7)))) wNext)
  (wSeq (wSet 2 (wBin dDGet (wVar 0) (wC (.p (.str (Str.ofString "at"))))))
  (wSeq (wDPut (wVar 0) (wC (.p (.str (Str.ofString "at")))) (wBin dAdd (wVar 2) (wC (.p (.int 1)))))
  (wSeq (wSet 3 (wBin dAdd (wBin dMul (wC (.p (.int 37))) (wVar 2)) (wC (.p (.int 11)))))
  (wSeq (wIfS (wTest (wBin (dEqv true) (wBin dDGet (wVar 0) (wC (.p (.str (Str.ofString "cells"))))) (wDisp .lst wNil))) (wSet 3 (wBin dIx (wBin dDGet (wVar 0) (wC (.p (.str (Str.ofString "cells"))))) (wBin dMod (wCB (b1 dToInt) (wCons (wVar 2) wNil)) (wCB (b1 dLen) (wCons (wBin dDGet (wVar 0) (wC (.p (.str (Str.ofString "cells"))))) wNil))))) wNext)
  (wSeq (wIfS (wAnd (wTest (wBin dLt (wVar 2) (wCB (b1 dLen) (wCons (wBin dDGet (wVar 0) (wC (.p (.str (Str.ofString "cells"))))) wNil)))) (wTest (wBin dGe (wCB (b1 dAbs) (wCons (wVar 3) wNil)) (wBin dPow (wC (.p (.int 10))) (wC (.p (.int 18))))))) (wSeq (wDPut (wVar 0) (wC (.p (.str (Str.ofString "left")))) (wBin dFdiv (wBin dSub (wCB (b1 dAbs) (wCons (wVar 3) wNil)) (wBin dPow (wC (.p (.int 10))) (wC (.p (.int 18))))) (wVar 1)))
  (wRet (wBin dMod (wBin dSub (wCB (b1 dAbs) (wCons (wVar 3) wNil)) (wBin dPow (wC (.p (.int 10))) (wC (.p (.int 18))))) (wVar 1)))) wNext)
  (wSeq (wSet 4 (wDisp .lst (wCons (wC (.p (.int 2147483629))) (wCons (wC (.p (.int 2147483647))) (wCons (wC (.p (.int 2147483587))) (wCons (wC (.p (.int 2147483563))) (wCons (wC (.p (.int 2147483579))) wNil)))))))
  (wSeq (wSet 5 (wBin dIx (wVar 4) (wBin dMod (wCB (b1 dToInt) (wCons (wVar 2) wNil)) (wC (.p (.int 5))))))
  (wSeq (wSet 6 (wBin dMod (wCB (b1 dToInt) (wCons (wBin dAdd (wBin dAdd (wBin dAdd (wBin dMul (wBin dMod (wCB (b1 dToInt) (wCons (wVar 3) wNil)) (wVar 5)) (wC (.p (.int 48271)))) (wBin dMul (wBin dMul (wC (.p (.int 40699))) (wVar 2)) (wVar 2))) (wBin dMul (wC (.p (.int 69621))) (wVar 2))) (wC (.p (.int 7)))) wNil)) (wVar 5)))
  (wSeq (wSet 6 (wBin dMod (wCB (b1 dToInt) (wCons (wBin dMul (wVar 6) (wBin dAdd (wVar 6) (wC (.p (.int 16807))))) wNil)) (wBin dIx (wVar 4) (wBin dMod (wCB (b1 dToInt) (wCons (wBin dAdd (wVar 2) (wC (.p (.int 2)))) wNil)) (wC (.p (.int 5)))))))
  (wRet (wBin dMod (wCB (b1 dToInt) (wCons (wBin dFdiv (wBin dMod (wCB (b1 dToInt) (wCons (wBin dMul (wVar 6) (wVar 6)) wNil)) (wC (.p (.int 2147483549)))) (wC (.p (.int 64)))) wNil)) (wVar 1)))))))))))))
def m__law_draw : FD := fnF N__law_draw ps__law_draw f__law_draw
theorem m__law_draw_e (a0 a1 : D) (S : Store) : m__law_draw [a0, a1] S = finF S.length (f__law_draw [some a0, some a1, none, none, none, none, none, none] S) := (rfl)
abbrev N__law_pick : List Str := [(Str.ofString "_law_feed_here"), (Str.ofString "_law_options")]
abbrev ps__law_pick : List Str := [(Str.ofString "_law_feed_here"), (Str.ofString "_law_options")]
def f__law_pick : FS :=
  (wRet (wBin dIx (wVar 1) (wCall0 m__law_draw (wCons (wVar 0) (wCons (wCB (b1 dLen) (wCons (wVar 1) wNil)) wNil)))))
def m__law_pick : FD := fnF N__law_pick ps__law_pick f__law_pick
theorem m__law_pick_e (a0 a1 : D) (S : Store) : m__law_pick [a0, a1] S = finF S.length (f__law_pick [some a0, some a1] S) := (rfl)
abbrev N__law_names : List Str := [(Str.ofString "_law_feed_here"), (Str.ofString "_law_many"), (Str.ofString "_law_letters"), (Str.ofString "_law_base"), (Str.ofString "_law_step"), (Str.ofString "_law_signs"), (Str.ofString "_law_tails"), (Str.ofString "_law_at"), (Str.ofString "_law_begin"), (Str.ofString "_law_short"), (Str.ofString "_law_k")]
abbrev ps__law_names : List Str := [(Str.ofString "_law_feed_here"), (Str.ofString "_law_many")]
def f__law_names_1 : FE := wCall0 m__law_pick (wCons (wVar 0) (wCons (wVar 2) wNil))
def f__law_names_2 : FE := wBin dIx (wVar 2) (wBin dMod (wCB (b1 dToInt) (wCons (wBin dAdd (wVar 8) (wBin dMul (wVar 4) (wVar 10))) wNil)) (wC (.p (.int 26))))
def f__law_names_3 : FE := wSl (wSl (wVar 3) (wPart (wBin dAdd (wVar 7) (wC (.p (.int 1))))) wNoP) wNoP (wPart (wBin dIx (wDisp .lst (wCons (wC (.p (.int 8))) (wCons (wBin dMod (wCB (b1 dToInt) (wCons (wVar 10) wNil)) (wC (.p (.int 3)))) wNil))) (wVar 9)))
def f__law_names_4 : FE := wBin dAdd (wBin dAdd (wSl (wVar 3) wNoP (wPart (wVar 7))) (wBin dIx (wVar 5) (wVar 10))) (wBin dIx (wVar 6) (wVar 10))
def f__law_names : FS :=
  (wSeq (wSet 2 (wC (.p (.str (Str.ofString "abcdefghijklmnopqrstuvwxyz")))))
  (wSeq (wSet 3 (wJoin (wC (.p (.str (Str.ofString "")))) (wLC (wRng (wCons (wBin dAdd (wC (.p (.int 1))) (wCall0 m__law_draw (wCons (wVar 0) (wCons (wC (.p (.int 8))) wNil)))) wNil)) (.nm 10) wYes f__law_names_1 [10])))
  (wSeq (wAsgT [7, 8, 9] (wDisp .tup (wCons (wCall0 m__law_draw (wCons (wVar 0) (wCons (wCB (b1 dLen) (wCons (wVar 3) wNil)) wNil))) (wCons (wCall0 m__law_draw (wCons (wVar 0) (wCons (wC (.p (.int 26))) wNil))) (wCons (wCall0 m__law_draw (wCons (wVar 0) (wCons (wC (.p (.int 2))) wNil))) wNil)))))
  (wSeq (wSet 4 (wCall0 m__law_pick (wCons (wVar 0) (wCons (wDisp .lst (wCons (wC (.p (.int 1))) (wCons (wC (.p (.int 3))) (wCons (wC (.p (.int 5))) (wCons (wC (.p (.int 7))) (wCons (wC (.p (.int 9))) (wCons (wC (.p (.int 11))) (wCons (wC (.p (.int 15))) (wCons (wC (.p (.int 17))) (wCons (wC (.p (.int 19))) (wCons (wC (.p (.int 21))) (wCons (wC (.p (.int 23))) (wCons (wC (.p (.int 25))) wNil))))))))))))) wNil))))
  (wSeq (wSet 5 (wLC (wRng (wCons (wVar 1) wNil)) (.nm 10) wYes f__law_names_2 [10]))
  (wSeq (wSet 6 (wLC (wRng (wCons (wVar 1) wNil)) (.nm 10) wYes f__law_names_3 [10]))
  (wRet (wLC (wRng (wCons (wVar 1) wNil)) (.nm 10) wYes f__law_names_4 [10]))))))))
def m__law_names : FD := fnF N__law_names ps__law_names f__law_names
theorem m__law_names_e (a0 a1 : D) (S : Store) : m__law_names [a0, a1] S = finF S.length (f__law_names [some a0, some a1, none, none, none, none, none, none, none, none, none] S) := (rfl)
abbrev N__law_level : List Str := [(Str.ofString "_law_feed_here"), (Str.ofString "_law_near"), (Str.ofString "_law_far")]
abbrev ps__law_level : List Str := [(Str.ofString "_law_feed_here")]
def f__law_level : FS :=
  (wSeq (wPar2 1 2 (wCons (wBin dSub (wCall0 m__law_draw (wCons (wVar 0) (wCons (wC (.p (.int 19))) wNil))) (wC (.p (.int 9)))) (wCons (wBin dAdd (wBin dPow (wC (.p (.int 10))) (wC (.p (.int 29)))) (wCall0 m__law_draw (wCons (wVar 0) (wCons (wBin dPow (wC (.p (.int 10))) (wC (.p (.int 6)))) wNil)))) wNil)))
  (wRet (wCall0 m__law_pick (wCons (wVar 0) (wCons (wDisp .lst (wCons (wVar 1) (wCons (wVar 1) (wCons (wVar 1) (wCons (wVar 1) (wCons (wVar 1) (wCons (wVar 1) (wCons (wBin dSub (wCall0 m__law_draw (wCons (wVar 0) (wCons (wC (.p (.int 200))) wNil))) (wC (.p (.int 100)))) (wCons (wVar 2) (wCons (wBin dSub (wC (.p (.int 0))) (wVar 2)) wNil)))))))))) wNil)))))
def m__law_level : FD := fnF N__law_level ps__law_level f__law_level
theorem m__law_level_e (a0 : D) (S : Store) : m__law_level [a0] S = finF S.length (f__law_level [some a0, none, none] S) := (rfl)
abbrev N__law_pool : List Str := [(Str.ofString "_law_feed_here")]
abbrev ps__law_pool : List Str := [(Str.ofString "_law_feed_here")]
def f__law_pool : FS :=
  (wRet (wCall0 m__law_names (wCons (wVar 0) (wCons (wBin dAdd (wC (.p (.int 1))) (wCall0 m__law_draw (wCons (wVar 0) (wCons (wC (.p (.int 4))) wNil)))) wNil))))
def m__law_pool : FD := fnF N__law_pool ps__law_pool f__law_pool
theorem m__law_pool_e (a0 : D) (S : Store) : m__law_pool [a0] S = finF S.length (f__law_pool [some a0] S) := (rfl)
abbrev N__law_layers : List Str := [(Str.ofString "_law_feed_here"), (Str.ofString "_law_pool_here"), (Str.ofString "_law_most"), (Str.ofString "_law_found"), (Str.ofString "_law_k"), (Str.ofString "_law_thick"), (Str.ofString "_law_rock"), (Str.ofString "_law_sign")]
abbrev ps__law_layers : List Str := [(Str.ofString "_law_feed_here"), (Str.ofString "_law_pool_here"), (Str.ofString "_law_most")]
def f__law_layers_1 : FS := wSeq (wPar2 6 7 (wCons (wCall0 m__law_pick (wCons (wVar 0) (wCons (wVar 1) wNil))) (wCons (wCall0 m__law_pick (wCons (wVar 0) (wCons (wDisp .lst (wCons (wC (.p .non)) (wCons (wC (.p .non)) (wCons (wCall0 m__law_pick (wCons (wVar 0) (wCons (wVar 1) wNil))) wNil)))) wNil))) wNil)))
  (wSeq (wSet 5 (wCall0 m__law_pick (wCons (wVar 0) (wCons (wDisp .lst (wCons (wC (.p (.int 1))) (wCons (wC (.p (.int 2))) (wCons (wBin dAdd (wC (.p (.int 1))) (wCall0 m__law_draw (wCons (wVar 0) (wCons (wC (.p (.int 9))) wNil)))) (wCons (wBin dAdd (wBin dPow (wC (.p (.int 10))) (wC (.p (.int 28)))) (wCall0 m__law_draw (wCons (wVar 0) (wCons (wBin dPow (wC (.p (.int 10))) (wC (.p (.int 6)))) wNil)))) wNil))))) wNil))))
  (wIfS (wOr (wTest (wBin (dEqv false) (wVar 3) (wDisp .lst wNil))) (wOr (wTest (wBin (dEqv true) (wBin dIx (wBin dIx (wVar 3) (wUn dNeg (wC (.p (.int 1))))) (wC (.p (.int 0)))) (wVar 6))) (wTest (wBin (dIsN true) (wBin dIx (wBin dIx (wVar 3) (wUn dNeg (wC (.p (.int 1))))) (wC (.p (.int 2)))) (wC (.p .non)))))) (wDrop (wBM "list" dAppend (wVar 3) (wCons (wDisp .tup (wCons (wVar 6) (wCons (wVar 5) (wCons (wVar 7) wNil)))) wNil))) wNext))
def f__law_layers : FS :=
  (wSeq (wSet 3 (wNewL wNil))
  (wSeq (wFor (wRng (wCons (wCall0 m__law_draw (wCons (wVar 0) (wCons (wBin dAdd (wVar 2) (wC (.p (.int 1)))) wNil))) wNil)) (.nm 4) f__law_layers_1)
  (wRet (wFrz (wVar 3)))))
def m__law_layers : FD := fnF N__law_layers ps__law_layers f__law_layers
theorem m__law_layers_e (a0 a1 a2 : D) (S : Store) : m__law_layers [a0, a1, a2] S = finF S.length (f__law_layers [some a0, some a1, some a2, none, none, none, none, none] S) := (rfl)
abbrev N__law_column : List Str := [(Str.ofString "_law_feed_here"), (Str.ofString "_law_pool_here"), (Str.ofString "_law_most"), (Str.ofString "_law_base"), (Str.ofString "_law_seal")]
abbrev ps__law_column : List Str := [(Str.ofString "_law_feed_here"), (Str.ofString "_law_pool_here"), (Str.ofString "_law_most")]
def f__law_column : FS :=
  (wSeq (wPar2 3 4 (wCons (wCall0 m__law_pick (wCons (wVar 0) (wCons (wDisp .lst (wCons (wC (.p .non)) (wCons (wC (.p .non)) (wCons (wCall0 m__law_pick (wCons (wVar 0) (wCons (wVar 1) wNil))) wNil)))) wNil))) (wCons (wCall0 m__law_pick (wCons (wVar 0) (wCons (wDisp .lst (wCons (wC (.p .non)) (wCons (wCall0 m__law_pick (wCons (wVar 0) (wCons (wVar 1) wNil))) wNil))) wNil))) wNil)))
  (wRet (wDisp .tup (wCons (wVar 3) (wCons (wCall0 m__law_level (wCons (wVar 0) wNil)) (wCons (wVar 4) (wCons (wCall0 m__law_layers (wCons (wVar 0) (wCons (wVar 1) (wCons (wVar 2) wNil)))) wNil)))))))
def m__law_column : FD := fnF N__law_column ps__law_column f__law_column
theorem m__law_column_e (a0 a1 a2 : D) (S : Store) : m__law_column [a0, a1, a2] S = finF S.length (f__law_column [some a0, some a1, some a2, none, none] S) := (rfl)
abbrev N_Column___init__ : List Str := [(Str.ofString "self"), (Str.ofString "foot"), (Str.ofString "beds"), (Str.ofString "root"), (Str.ofString "mark"), (Str.ofString "name"), (Str.ofString "rock"), (Str.ofString "thickness"), (Str.ofString "own_mark")]
abbrev ps_Column___init__ : List Str := [(Str.ofString "self"), (Str.ofString "foot"), (Str.ofString "beds"), (Str.ofString "root"), (Str.ofString "mark")]
def f_Column___init___1 : FS := wIfS (wTest (wBin (dIsN true) (wVar 5) (wC (.p .non)))) (wDrop (wCall0 m_need_name (wCons (wVar 5) wNil))) wNext
def f_Column___init___2 : FE := wVar 7
def f_Column___init__ : FS :=
  (wSeq (wDrop (wCall0 m_need_level (wCons (wVar 1) wNil)))
  (wSeq (wIfS (wNot (wTest (wCall0 m_are_beds (wCons (wVar 2) wNil)))) (wRaise "InvalidBeds" [(Str.ofString "value")] (wCons (wVar 2) wNil)) wNext)
  (wSeq (wFor (wIt (wDisp .tup (wCons (wVar 3) (wCons (wVar 4) wNil)))) (.nm 5) f_Column___init___1)
  (wSeq (wFSet csp_foot (Str.ofString "foot") (wVar 0) (wVar 1))
  (wSeq (wFSet csp_beds (Str.ofString "beds") (wVar 0) (wCB (b1 dTupleOf) (wCons (wVar 2) wNil)))
  (wSeq (wFSet csp_root (Str.ofString "root") (wVar 0) (wVar 3))
  (wSeq (wFSet csp_mark (Str.ofString "mark") (wVar 0) (wVar 4))
  (wFSet csp_top (Str.ofString "top") (wVar 0) (wBin dAdd (wVar 1) (wCB (b1 dSum) (wCons (wLC (wIt (wVar 2)) (.tp [6, 7, 8]) wYes f_Column___init___2 [6, 7, 8]) wNil)))))))))))
def m_Column___init__ : FD := fnF N_Column___init__ ps_Column___init__ f_Column___init__
theorem m_Column___init___e (a0 a1 a2 a3 a4 : D) (S : Store) : m_Column___init__ [a0, a1, a2, a3, a4] S = finF S.length (f_Column___init__ [some a0, some a1, some a2, some a3, some a4, none, none, none, none] S) := (rfl)
abbrev N__law_built : List Str := [(Str.ofString "_law_column_here")]
abbrev ps__law_built : List Str := [(Str.ofString "_law_column_here")]
def f__law_built_L1 : FS := wRet (wMake "Column" m_Column___init__ 2 2 gbd_Column_2_root_mark (wCons (wBin dIx (wVar 0) (wC (.p (.int 1)))) (wCons (wBin dIx (wVar 0) (wC (.p (.int 3)))) wNil)) (wCons (wBin dIx (wVar 0) (wC (.p (.int 0)))) (wCons (wBin dIx (wVar 0) (wC (.p (.int 2)))) wNil)))
def f__law_built : FS :=
  f__law_built_L1
def m__law_built : FD := fnF N__law_built ps__law_built f__law_built
theorem m__law_built_e (a0 : D) (S : Store) : m__law_built [a0] S = finF S.length (f__law_built [some a0] S) := (rfl)
abbrev N__law_told_column : List Str := [(Str.ofString "_law_one")]
abbrev ps__law_told_column : List Str := [(Str.ofString "_law_one")]
def f__law_told_column_L1 : FS := wRet (wDisp .tup (wCons (wAttr cs_root (Str.ofString "root") (wVar 0)) (wCons (wAttr cs_foot (Str.ofString "foot") (wVar 0)) (wCons (wAttr cs_mark (Str.ofString "mark") (wVar 0)) (wCons (wCB (b1 dListOf) (wCons (wAttr cs_beds (Str.ofString "beds") (wVar 0)) wNil)) wNil)))))
def f__law_told_column : FS :=
  f__law_told_column_L1
def m__law_told_column : FD := fnF N__law_told_column ps__law_told_column f__law_told_column
theorem m__law_told_column_e (a0 : D) (S : Store) : m__law_told_column [a0] S = finF S.length (f__law_told_column [some a0] S) := (rfl)
abbrev N__law_any : List Str := [(Str.ofString "_law_feed_here"), (Str.ofString "_law_deep"), (Str.ofString "_law_some"), (Str.ofString "_law_inner"), (Str.ofString "_law_k")]
abbrev ps__law_any : List Str := [(Str.ofString "_law_feed_here"), (Str.ofString "_law_deep")]
def f__law_any_1 (REC : FD) : FE := wCall0 REC (wCons (wVar 0) (wCons (wBin dSub (wVar 1) (wC (.p (.int 1)))) wNil))
def f__law_any (REC : FD) : FS :=
  (wSeq (wSet 2 (wDisp .lst (wCons (wC (.p .non)) (wCons (wC (.p (.bl true))) (wCons (wC (.p (.bl false))) (wCons (wC (.p (.int 0))) (wCons (wC (.p (.int 1))) (wCons (wUn dNeg (wC (.p (.int 1)))) (wCons (wC (.p (.int 12))) (wCons (wBin dPow (wC (.p (.int 10))) (wC (.p (.int 29)))) (wCons (wC (.p (.str (Str.ofString "")))) (wCons (wC (.p (.str (Str.ofString "a")))) (wCons (wC (.p (.str (Str.ofString "abcdefgh")))) (wCons (wC (.p (.str (Str.ofString "abcdefghi")))) (wCons (wC (.p (.str (Str.ofString "A")))) (wCons (wC (.p (.str (Str.ofString "a b")))) (wCons (wC (.p (.str (Str.ofString "a1")))) (wCons (wC (.p (.str (Str.ofString "0")))) (wCons (wC (.p (.str (Str.ofString "zz")))) wNil)))))))))))))))))))
  (wSeq (wSet 2 (wBin dAdd (wVar 2) (wDisp .lst (wCons (wC (.p (.str (Str.ofString "~")))) (wCons (wC (.p (.str (Str.ofString "#")))) (wCons (wC (.p (.str (Str.ofString "a\n")))) (wCons (wDisp .tup wNil) (wCons (wDisp .lst wNil) (wCons wDNew (wCons (wDisp .tup (wCons (wC (.p (.str (Str.ofString "a")))) (wCons (wC (.p (.int 1))) (wCons (wC (.p .non)) wNil)))) (wCons (wDisp .lst (wCons (wDisp .tup (wCons (wC (.p (.str (Str.ofString "a")))) (wCons (wC (.p (.int 1))) (wCons (wC (.p .non)) wNil)))) wNil)) (wCons (wDisp .tup (wCons (wC (.p (.str (Str.ofString "lay")))) (wCons (wC (.p (.str (Str.ofString "a")))) wNil))) (wCons (wDictP [((wC (.p (.str (Str.ofString "a")))), (wC (.p (.int 1))))]) wNil)))))))))))))
  (wSeq (wIfS (wTest (wBin dGt (wVar 1) (wC (.p (.int 0))))) (wSeq (wSet 3 (wLC (wRng (wCons (wCall0 m__law_draw (wCons (wVar 0) (wCons (wC (.p (.int 4))) wNil))) wNil)) (.nm 4) wYes (f__law_any_1 REC) [4]))
  (wSet 2 (wBin dAdd (wVar 2) (wDisp .lst (wCons (wVar 3) (wCons (wCB (b1 dTupleOf) (wCons (wVar 3) wNil)) (wCons (wDictP [((wC (.p (.str (Str.ofString "a")))), (wCB (b1 dTupleOf) (wCons (wVar 3) wNil)))]) wNil))))))) wNext)
  (wRet (wCall0 m__law_pick (wCons (wVar 0) (wCons (wVar 2) wNil)))))))
def m__law_any : Nat → FD
  | 0 => fun _ _ => .bad
  | n + 1 => fnF N__law_any ps__law_any (f__law_any (m__law_any n))
theorem m__law_any_e (n : Nat) (a0 a1 : D) (S : Store) : m__law_any (n + 1) [a0, a1] S = finF S.length (f__law_any (m__law_any n) [some a0, some a1, none, none, none] S) := (rfl)
abbrev N__law_is_int : List Str := [(Str.ofString "_law_value")]
abbrev ps__law_is_int : List Str := [(Str.ofString "_law_value")]
def f__law_is_int : FS :=
  (wRet (wAndV (wCB (b2 dIsi) (wCons (wVar 0) (wCons (wC (.p (.ty "int"))) wNil))) (wNotV (wCB (b2 dIsi) (wCons (wVar 0) (wCons (wC (.p (.ty "bool"))) wNil))))))
def m__law_is_int : FD := fnF N__law_is_int ps__law_is_int f__law_is_int
theorem m__law_is_int_e (a0 : D) (S : Store) : m__law_is_int [a0] S = finF S.length (f__law_is_int [some a0] S) := (rfl)
abbrev N__law_feed__2 : List Str := [(Str.ofString "_law_script")]
abbrev ps__law_feed__2 : List Str := [(Str.ofString "_law_script")]
def f__law_feed__2 : FS :=
  (wRet (wDictC [((wC (.p (.str (Str.ofString "cells")))), (wCB (b1 dListOf) (wCons (wSl (wVar 0) wNoP (wPart (wC (.p (.int 63))))) wNil))), ((wC (.p (.str (Str.ofString "at")))), (wC (.p (.int 0)))), ((wC (.p (.str (Str.ofString "left")))), (wC (.p (.int 0))))]))
def m__law_feed__2 : FD := fnN N__law_feed__2 ps__law_feed__2 f__law_feed__2
theorem m__law_feed__2_e (a0 : D) (S : Store) : m__law_feed__2 [a0] S = finN (f__law_feed__2 [some a0] S) := (rfl)
abbrev N__law_pick__2 : List Str := [(Str.ofString "_law_feed_here"), (Str.ofString "_law_options")]
abbrev ps__law_pick__2 : List Str := [(Str.ofString "_law_feed_here"), (Str.ofString "_law_options")]
def f__law_pick__2 : FS :=
  (wRet (wBin dIx (wVar 1) (wCall0 (liftM m__law_draw) (wCons (wVar 0) (wCons (wCB (b1 dLen) (wCons (wVar 1) wNil)) wNil)))))
def m__law_pick__2 : FD := fnN N__law_pick__2 ps__law_pick__2 f__law_pick__2
theorem m__law_pick__2_e (a0 a1 : D) (S : Store) : m__law_pick__2 [a0, a1] S = finN (f__law_pick__2 [some a0, some a1] S) := (rfl)
abbrev N__law_caught__2 : List Str := [(Str.ofString "_law_call"), (Str.ofString "e"), (Str.ofString "_law_one")]
abbrev ps__law_caught__2 : List Str := [(Str.ofString "_law_call")]
def f__law_caught__2_E2 (ACT : Store → O D) : FE := wCall0 (liftM m__law_told_column) (wCons (wVar 2) wNil)
def f__law_caught__2_L2 (ACT : Store → O D) : FS := wRet (wDisp .tup (wCons (wC (.p (.str (Str.ofString "made")))) (wCons (wLC (wIt (wAttr cs_columns (Str.ofString "columns") (wAct 0 ACT))) (.nm 2) wYes (f__law_caught__2_E2 ACT) [2]) wNil)))
def f__law_caught__2_B2 (ACT : Store → O D) : FS := f__law_caught__2_L2 ACT
def f__law_caught__2_L6 (ACT : Store → O D) : FS := wRet (wDisp .tup (wCons (wC (.p (.str (Str.ofString "width")))) (wCons (wCB (b1 dRepr) (wCons (wAttr cs_width (Str.ofString "width") (wVar 1)) wNil)) (wCons (wUn (dIsK kinds is_ValueError) (wVar 1)) wNil))))
def f__law_caught__2_B6 (ACT : Store → O D) : FS := f__law_caught__2_L6 ACT
def f__law_caught__2_L4 (ACT : Store → O D) : FS := wRet (wDisp .tup (wCons (wC (.p (.str (Str.ofString "columns")))) (wCons (wAttr cs_value (Str.ofString "value") (wVar 1)) (wCons (wUn (dIsK kinds is_ValueError) (wVar 1)) wNil))))
def f__law_caught__2_B4 (ACT : Store → O D) : FS := f__law_caught__2_L4 ACT
def f__law_caught__2_L1 (ACT : Store → O D) : FS := wTry (f__law_caught__2_B2 ACT) [(exm_InvalidColumns, 1, (f__law_caught__2_B4 ACT)), (exm_WrongWidth, 1, (f__law_caught__2_B6 ACT))]
def f__law_caught__2 (ACT : Store → O D) : FS :=
  (f__law_caught__2_L1 ACT)
theorem mc__law_caught__2_e (ACT : Store → O D) (S : Store) : mcN N__law_caught__2 f__law_caught__2 ACT S = finN (f__law_caught__2 ACT [some .fn, none, none] S) := (rfl)
abbrev N_Section___init__ : List Str := [(Str.ofString "self"), (Str.ofString "columns"), (Str.ofString "column")]
abbrev ps_Section___init__ : List Str := [(Str.ofString "self"), (Str.ofString "columns")]
def f_Section___init___L2 : FS := wRaise "InvalidColumns" [(Str.ofString "value")] (wCons (wVar 1) wNil)
def f_Section___init___L1 : FS := wIfS (wOr (wNot (wTest (wIsi2 "list" "tuple" (wVar 1)))) (wNot (wTest (wChain dLe dLe (wC (.p (.int 1))) (wCB (b1 dLen) (wCons (wVar 1) wNil)) (wUn (dCon ccs_MOST_COLUMNS (Str.ofString "MOST_COLUMNS") 12) (wVar 0)))))) f_Section___init___L2 wNext
def f_Section___init___E3 : FE := wUn (dIsK kinds is_Column) (wVar 2)
def f_Section___init___L4 : FS := wRaise "InvalidColumns" [(Str.ofString "value")] (wCons (wVar 1) wNil)
def f_Section___init___L3 : FS := wIfS (wNot (wTest (wCB (b1 dAll) (wCons (wLC (wIt (wVar 1)) (.nm 2) wYes f_Section___init___E3 [2]) wNil)))) f_Section___init___L4 wNext
def f_Section___init___L5 : FS := wFSet csp_columns (Str.ofString "columns") (wVar 0) (wCB (b1 dTupleOf) (wCons (wVar 1) wNil))
def f_Section___init__ : FS :=
  (wSeq f_Section___init___L1
  (wSeq f_Section___init___L3
  f_Section___init___L5))
def m_Section___init__ : FD := fnF N_Section___init__ ps_Section___init__ f_Section___init__
theorem m_Section___init___e (a0 a1 : D) (S : Store) : m_Section___init__ [a0, a1] S = finF S.length (f_Section___init__ [some a0, some a1, none] S) := (rfl)
abbrev N_Section___init____2 : List Str := [(Str.ofString "self"), (Str.ofString "columns"), (Str.ofString "column")]
abbrev ps_Section___init____2 : List Str := [(Str.ofString "self"), (Str.ofString "columns")]
def f_Section___init____2_L2 : FS := wRaise "InvalidColumns" [(Str.ofString "value")] (wCons (wL (wN (wVar 1))) wNil)
def f_Section___init____2_L1 : FS := wIfS (wOr (wNot (wTest (wIsi2 "list" "tuple" (wN (wVar 1))))) (wNot (wTest (wChain dLe dLe (wC (.p (.int 1))) (wCB (b1 dLen) (wCons (wN (wVar 1)) wNil)) (wUn (dCon ccs_MOST_COLUMNS (Str.ofString "MOST_COLUMNS") 12) (wVar 0)))))) f_Section___init____2_L2 wNext
def f_Section___init____2_E3 : FE := wUn (dIsK kinds is_Column) (wVar 2)
def f_Section___init____2_L4 : FS := wRaise "InvalidColumns" [(Str.ofString "value")] (wCons (wL (wN (wVar 1))) wNil)
def f_Section___init____2_L3 : FS := wIfS (wNot (wTest (wLentC 1 (wCB (b1 dAll) (wCons (wLC (wIt (wVar 1)) (.nm 2) wYes f_Section___init____2_E3 [2]) wNil))))) f_Section___init____2_L4 wNext
def f_Section___init____2_L5 : FS := wFSet csp_columns (Str.ofString "columns") (wVar 0) (wCB (b1 dTupleOf) (wCons (wN (wVar 1)) wNil))
def f_Section___init____2 : FS :=
  (wSeq f_Section___init____2_L1
  (wSeq f_Section___init____2_L3
  f_Section___init____2_L5))
def m_Section___init____2 : FD := fnN N_Section___init____2 ps_Section___init____2 f_Section___init____2
theorem m_Section___init____2_e (a0 a1 : D) (S : Store) : m_Section___init____2 [a0, a1] S = finN (f_Section___init____2 [some a0, some a1, none] S) := (rfl)
abbrev N_Section_flat : List Str := [(Str.ofString "cls"), (Str.ofString "width"), (Str.ofString "at")]
abbrev ps_Section_flat : List Str := [(Str.ofString "cls"), (Str.ofString "width")]
def f_Section_flat_1 : FE := wMake "Column" m_Column___init__ 0 0 gbd_Column_0 wNil wNil
def f_Section_flat : FS :=
  (wSeq (wDrop (wCall0 m_need_width (wCons (wVar 1) wNil)))
  (wRet (wMakeC "Section" m_Section___init__ 1 gbd_Section_1 (wVar 0) (wCons (wLC (wRng (wCons (wVar 1) wNil)) (.nm 2) wYes f_Section_flat_1 [2]) wNil))))
def m_Section_flat : FD := fnF N_Section_flat ps_Section_flat f_Section_flat
theorem m_Section_flat_e (a0 a1 : D) (S : Store) : m_Section_flat [a0, a1] S = finF S.length (f_Section_flat [some a0, some a1, none] S) := (rfl)
abbrev N_Column___eq__ : List Str := [(Str.ofString "self"), (Str.ofString "other")]
abbrev ps_Column___eq__ : List Str := [(Str.ofString "self"), (Str.ofString "other")]
def f_Column___eq__ : FS :=
  (wSeq (wIfS (wOr (wNot (wTest (wUn (dIsK kinds is_Column) (wVar 1)))) (wOr (wTest (wBin (dEqv true) (wAttr cs_foot (Str.ofString "foot") (wVar 0)) (wAttr cs_foot (Str.ofString "foot") (wVar 1)))) (wTest (wBin (dEqv true) (wAttr cs_beds (Str.ofString "beds") (wVar 0)) (wAttr cs_beds (Str.ofString "beds") (wVar 1)))))) (wRet (wC (.p (.bl false)))) wNext)
  (wRet (wAndV (wBin (dEqv false) (wAttr cs_root (Str.ofString "root") (wVar 0)) (wAttr cs_root (Str.ofString "root") (wVar 1))) (wBin (dEqv false) (wAttr cs_mark (Str.ofString "mark") (wVar 0)) (wAttr cs_mark (Str.ofString "mark") (wVar 1))))))
def m_Column___eq__ : FD := fnF N_Column___eq__ ps_Column___eq__ f_Column___eq__
theorem m_Column___eq___e (a0 a1 : D) (S : Store) : m_Column___eq__ [a0, a1] S = finF S.length (f_Column___eq__ [some a0, some a1] S) := (rfl)
abbrev N_Section___eq__ : List Str := [(Str.ofString "self"), (Str.ofString "other")]
abbrev ps_Section___eq__ : List Str := [(Str.ofString "self"), (Str.ofString "other")]
def f_Section___eq__ : FS :=
  (wRet (wAndV (wUn (dIsK kinds is_Section) (wVar 1)) (wBin (dEqS "Column" m_Column___eq__) (wAttr cs_columns (Str.ofString "columns") (wVar 0)) (wAttr cs_columns (Str.ofString "columns") (wVar 1)))))
def m_Section___eq__ : FD := fnF N_Section___eq__ ps_Section___eq__ f_Section___eq__
theorem m_Section___eq___e (a0 a1 : D) (S : Store) : m_Section___eq__ [a0, a1] S = finF S.length (f_Section___eq__ [some a0, some a1] S) := (rfl)
abbrev N_law : List Str := [(Str.ofString "_law_script"), (Str.ofString "_law_feed_here"), (Str.ofString "_law_turn"), (Str.ofString "_law_state"), (Str.ofString "_law_value"), (Str.ofString "_law_odd"), (Str.ofString "_law_given"), (Str.ofString "_law_told"), (Str.ofString "_law_thing"), (Str.ofString "_law_many"), (Str.ofString "_law_due"), (Str.ofString "_law_pool_here"), (Str.ofString "_law_count"), (Str.ofString "_law_ground"), (Str.ofString "_law_k"), (Str.ofString "_law_plain"), (Str.ofString "_law_one")]
abbrev ps_law : List Str := [(Str.ofString "_law_script")]
def f_law_L1 : FS := wSet 1 (wCall0 m__law_feed__2 (wCons (wVar 0) wNil))
def f_law_L3 : FS := wAsgT [11, 12] (wDisp .tup (wCons (wCall0 (liftM m__law_pool) (wCons (wVar 1) wNil)) (wCons (wCall0 m__law_pick__2 (wCons (wVar 1) (wCons (wDisp .lst (wCons (wC (.p (.int 0))) (wCons (wC (.p (.int 1))) (wCons (wC (.p (.int 2))) (wCons (wC (.p (.int 3))) (wCons (wC (.p (.int 11))) (wCons (wC (.p (.int 12))) (wCons (wC (.p (.int 13))) (wCons (wC (.p (.int 14))) wNil))))))))) wNil))) wNil)))
def f_law_E4 : FE := wCall0 (liftM m__law_column) (wCons (wVar 1) (wCons (wVar 11) (wCons (wC (.p (.int 2))) wNil)))
def f_law_L4 : FS := wSet 3 (wLC (wRng (wCons (wVar 12) wNil)) (.nm 14) wYes f_law_E4 [14])
def f_law_E5 : FE := wCall0 (liftM m__law_built) (wCons (wVar 15) wNil)
def f_law_L5 : FS := wSet 4 (wLCC (wIt (wVar 3)) (.nm 15) wYes f_law_E5 [15])
def f_law_L6 : FS := wSet 5 (wAndV (wBin (dEqv false) (wCall0 (liftM m__law_draw) (wCons (wVar 1) (wCons (wC (.p (.int 2))) wNil))) (wC (.p (.int 0)))) (wBin dGt (wVar 12) (wC (.p (.int 0)))))
def f_law_L8 : FS := wLPut (wVar 4) (wCall0 (liftM m__law_draw) (wCons (wVar 1) (wCons (wVar 12) wNil))) (wCall0 (liftM (m__law_any 3)) (wCons (wVar 1) (wCons (wC (.p (.int 1))) wNil)))
def f_law_L7 : FS := wIfS (wTest (wVar 5)) f_law_L8 wNext
def f_law_L9 : FS := wSet 6 (wCall0 m__law_pick__2 (wCons (wVar 1) (wCons (wDisp .lst (wCons (wL (wVar 4)) (wCons (wCB (b1 dTupleOf) (wCons (wVar 4) wNil)) wNil))) wNil)))
def f_law_E10 : FE := wFrz (wMakeO "Section" m_Section___init____2 1 gbd_Section_1 (wCons (wVar 6) wNil))
def f_law_L10 : FS := wSet 7 (wLam (mcN N__law_caught__2 f__law_caught__2) f_law_E10)
def f_law_L12 : FS := wRet (wC (.p (.bl false)))
def f_law_L11 : FS := wIfS (wTest (wBin (dNeP [("Column", (liftM m_Column___eq__))]) (wVar 7) (wIf (wAnd (wTest (wChain dLe dLe (wC (.p (.int 1))) (wVar 12) (wC (.p (.int 12))))) (wNot (wTest (wVar 5)))) (wDisp .tup (wCons (wC (.p (.str (Str.ofString "made")))) (wCons (wVar 3) wNil))) (wDisp .tup (wCons (wC (.p (.str (Str.ofString "columns")))) (wCons (wVar 6) (wCons (wC (.p (.bl true))) wNil))))))) f_law_L12 wNext
def f_law_L14 : FS := wSet 13 (wMakeL "Section" m_Section___init__ 0 1 gbd_Section_0_columns wNil (wCons (wVar 4) wNil))
def f_law_L15 : FS := wDrop (wBM "list" dAppend (wVar 4) (wCons (wBin dIx (wVar 4) (wC (.p (.int 0)))) wNil))
def f_law_L16 : FS := wLPut (wVar 4) (wC (.p (.int 0))) (wMakeL "Column" m_Column___init__ 1 0 gbd_Column_1 (wCons (wC (.p (.int 99))) wNil) wNil)
def f_law_E17 : FE := wCall0 (liftM m__law_told_column) (wCons (wVar 16) wNil)
def f_law_L18 : FS := wRet (wC (.p (.bl false)))
def f_law_L17 : FS := wIfS (wTest (wBin (dEqv true) (wLC (wIt (wAttr cs_columns (Str.ofString "columns") (wVar 13))) (.nm 16) wYes f_law_E17 [16]) (wVar 3))) f_law_L18 wNext
def f_law_L13 : FS := wIfS (wTest (wBin (dEqv false) (wBin dIx (wVar 7) (wC (.p (.int 0)))) (wC (.p (.str (Str.ofString "made")))))) (wSeq f_law_L14
  (wSeq f_law_L15
  (wSeq f_law_L16
  f_law_L17))) wNext
def f_law_L19 : FS := wSet 8 (wCall0 (liftM (m__law_any 3)) (wCons (wVar 1) (wCons (wC (.p (.int 2))) wNil)))
def f_law_E20 : FE := wFrz (wMakeO "Section" m_Section___init____2 1 gbd_Section_1 (wCons (wVar 8) wNil))
def f_law_L21 : FS := wRet (wC (.p (.bl false)))
def f_law_L20 : FS := wIfS (wTest (wBin (dNeP [("Column", (liftM m_Column___eq__))]) (wLam (mcN N__law_caught__2 f__law_caught__2) f_law_E20) (wDisp .tup (wCons (wC (.p (.str (Str.ofString "columns")))) (wCons (wVar 8) (wCons (wC (.p (.bl true))) wNil)))))) f_law_L21 wNext
def f_law_L22 : FS := wSet 9 (wCall0 m__law_pick__2 (wCons (wVar 1) (wCons (wDisp .lst (wCons (wBin dSub (wCall0 (liftM m__law_draw) (wCons (wVar 1) (wCons (wC (.p (.int 16))) wNil))) (wC (.p (.int 1)))) (wCons (wCall0 (liftM (m__law_any 3)) (wCons (wVar 1) (wCons (wC (.p (.int 1))) wNil))) wNil))) wNil)))
def f_law_L23 : FS := wSet 10 (wDisp .tup (wCons (wC (.p (.str (Str.ofString "width")))) (wCons (wCB (b1 dRepr) (wCons (wVar 9) wNil)) (wCons (wC (.p (.bl true))) wNil))))
def f_law_E25 : FE := wDisp .tup (wCons (wC (.p .non)) (wCons (wC (.p (.int 0))) (wCons (wC (.p .non)) (wCons (wDisp .lst wNil) wNil))))
def f_law_L25 : FS := wSet 10 (wDisp .tup (wCons (wC (.p (.str (Str.ofString "made")))) (wCons (wLC (wRng (wCons (wVar 9) wNil)) (.nm 14) wYes f_law_E25 [14]) wNil)))
def f_law_L24 : FS := wIfS (wAnd (wTest (wCall0 (liftM m__law_is_int) (wCons (wVar 9) wNil))) (wTest (wChain dLe dLe (wC (.p (.int 1))) (wVar 9) (wC (.p (.int 12)))))) f_law_L25 wNext
def f_law_E26 : FE := wLent 9 (wClsM m_Section_flat (wCons (wVar 9) wNil))
def f_law_L27 : FS := wRet (wC (.p (.bl false)))
def f_law_L26 : FS := wIfS (wTest (wBin (dEqv true) (wLam (mcN N__law_caught__2 f__law_caught__2) f_law_E26) (wVar 10))) f_law_L27 wNext
def f_law_B2 : FS := wSeq f_law_L3
  (wSeq f_law_L4
  (wSeq f_law_L5
  (wSeq f_law_L6
  (wSeq f_law_L7
  (wSeq f_law_L9
  (wSeq f_law_L10
  (wSeq f_law_L11
  (wSeq f_law_L13
  (wSeq f_law_L19
  (wSeq f_law_L20
  (wSeq f_law_L22
  (wSeq f_law_L23
  (wSeq f_law_L24
  f_law_L26)))))))))))))
def f_law_L2 : FS := wFor (wRng (wCons (wBin dAdd (wC (.p (.int 4))) (wCB (b2 dMin2) (wCons (wC (.p (.int 9))) (wCons (wCB (b1 dLen) (wCons (wVar 0) wNil)) wNil)))) wNil)) (.nm 2) f_law_B2
def f_law_L28 : FS := wRet (wLent 2 (wAndV (wBin (dEqv false) (wC (.p (.int 12))) (wC (.p (.int 12)))) (wBin (dEqO false "Section" m_Section___eq__) (wClsMK m_Section_flat gbdm_Section_flat_width 1 (wCons (wC (.p (.int 3))) wNil)) (wMake "Section" m_Section___init__ 1 0 gbd_Section_1 (wCons (wDisp .lst (wCons (wMake "Column" m_Column___init__ 0 0 gbd_Column_0 wNil wNil) (wCons (wMake "Column" m_Column___init__ 0 0 gbd_Column_0 wNil wNil) (wCons (wMake "Column" m_Column___init__ 0 0 gbd_Column_0 wNil wNil) wNil)))) wNil) wNil))))
def f_law : FS :=
  (wSeq f_law_L1
  (wSeq f_law_L2
  f_law_L28))
def m_law : FD := fnN N_law ps_law f_law
theorem m_law_e (a0 : D) (S : Store) : m_law [a0] S = finN (f_law [some a0, none, none, none, none, none, none, none, none, none, none, none, none, none, none, none, none] S) := (rfl)
end
local macro_rules
  | `(tactic| wide_line) => `(tactic| simp only [evs, List.drop_zero, List.drop_succ_cons, Option.map_some, Option.map_none, List.getElem?_cons_zero, List.getElem?_cons_succ, List.set_cons_zero, List.set_cons_succ, List.map_cons, List.map_nil, List.length_cons, List.length_nil, List.take_succ_cons, List.take_zero, if_true, if_false, eq_self, List.contains_cons, List.contains_nil, List.reverse_cons, List.reverse_nil, List.nil_append, List.cons_append, List.append_nil, List.lookup_cons, reduceCtorEq, ↓reduceIte, Nat.reduceAdd, Nat.reduceSub, Nat.reduceBEq, String.reduceBEq, String.reduceEq, Nat.reduceLeDiff, Nat.reduceLT, Int.reduceLT, Int.reduceLE, Int.reduceEq, Int.reduceToNat, Int.reducePow, Int.reduceAdd, Int.reduceSub, Int.reduceMul, Int.reduceNeg, Nat.reducePow, Int.reduceMod, Int.reduceDiv, Nat.reduceEqDiff])
local macro_rules
  | `(tactic| wide_line with [$ts,*]) => `(tactic| simp only [evs, List.drop_zero, List.drop_succ_cons, Option.map_some, Option.map_none, List.getElem?_cons_zero, List.getElem?_cons_succ, List.set_cons_zero, List.set_cons_succ, List.map_cons, List.map_nil, List.length_cons, List.length_nil, List.take_succ_cons, List.take_zero, if_true, if_false, eq_self, List.contains_cons, List.contains_nil, List.reverse_cons, List.reverse_nil, List.nil_append, List.cons_append, List.append_nil, List.lookup_cons, reduceCtorEq, ↓reduceIte, Nat.reduceAdd, Nat.reduceSub, Nat.reduceBEq, String.reduceBEq, String.reduceEq, Nat.reduceLeDiff, Nat.reduceLT, Int.reduceLT, Int.reduceLE, Int.reduceEq, Int.reduceToNat, Int.reducePow, Int.reduceAdd, Int.reduceSub, Int.reduceMul, Int.reduceNeg, Nat.reducePow, Int.reduceMod, Int.reduceDiv, Nat.reduceEqDiff, $[$ts:term],*])
local macro_rules
  | `(tactic| wide_line using []) => `(tactic| simp only [evs, evo, List.drop_zero, List.drop_succ_cons, Option.map_some, Option.map_none, List.getElem?_cons_zero, List.getElem?_cons_succ, List.set_cons_zero, List.set_cons_succ, List.map_cons, List.map_nil, List.length_cons, List.length_nil, List.take_succ_cons, List.take_zero, if_true, if_false, eq_self, List.contains_cons, List.contains_nil, List.reverse_cons, List.reverse_nil, List.nil_append, List.cons_append, List.append_nil, List.lookup_cons, reduceCtorEq, ↓reduceIte, Nat.reduceAdd, Nat.reduceSub, Nat.reduceBEq, String.reduceBEq, String.reduceEq, Nat.reduceLeDiff, Nat.reduceLT, Int.reduceLT, Int.reduceLE, Int.reduceEq, Int.reduceToNat, Int.reducePow, Int.reduceAdd, Int.reduceSub, Int.reduceMul, Int.reduceNeg, Nat.reducePow, Int.reduceMod, Int.reduceDiv, Nat.reduceEqDiff])
local macro_rules
  | `(tactic| wide_line using [$ts,*]) => `(tactic| simp only [evs, evo, List.drop_zero, List.drop_succ_cons, Option.map_some, Option.map_none, List.getElem?_cons_zero, List.getElem?_cons_succ, List.set_cons_zero, List.set_cons_succ, List.map_cons, List.map_nil, List.length_cons, List.length_nil, List.take_succ_cons, List.take_zero, if_true, if_false, eq_self, List.contains_cons, List.contains_nil, List.reverse_cons, List.reverse_nil, List.nil_append, List.cons_append, List.append_nil, List.lookup_cons, reduceCtorEq, ↓reduceIte, Nat.reduceAdd, Nat.reduceSub, Nat.reduceBEq, String.reduceBEq, String.reduceEq, Nat.reduceLeDiff, Nat.reduceLT, Int.reduceLT, Int.reduceLE, Int.reduceEq, Int.reduceToNat, Int.reducePow, Int.reduceAdd, Int.reduceSub, Int.reduceMul, Int.reduceNeg, Nat.reducePow, Int.reduceMod, Int.reduceDiv, Nat.reduceEqDiff, $[$ts:term],*])
abbrev abc : Str := Str.ofString "abcdefghijklmnopqrstuvwxyz"
def isName : P → Bool
  | .str z => decide (1 ≤ z.length) && decide (z.length ≤ 8) && z.cps.toList.all fun c => decide (c ∈ abc.cps.toList)
  | _ => false
def isInt : P → Bool
  | .int _ => true
  | _ => false
mutual
def tame : P → Prop
  | .ty _ => False
  | .scr _ => False
  | .obj _ _ _ => False
  | .dT _ _ => False
  | .cel _ => False
  | .fK _ _ => False
  | .str z => z.length ≤ 1000 ∧ ∀ c ∈ z.cps.toList, c < 128
  | .tup xs => xs.length ≤ 1000 ∧ tames xs
  | .lst xs => xs.length ≤ 1000 ∧ tames xs
  | _ => True
def tames : List P → Prop
  | [] => True
  | x :: xs => tame x ∧ tames xs
end
theorem tames.mem : ∀ {xs : List P} {x : P}, tames xs → x ∈ xs → tame x
  | [], _, _, m => nomatch m
  | y :: ys, x, h, m => by
    simp only [tames] at h
    rcases List.mem_cons.mp m with rfl | m
    · exact h.1
    · exact h.2.mem m
theorem tames_of : ∀ {xs : List P}, (∀ x ∈ xs, tame x) → tames xs
  | [], _ => by simp only [tames]
  | x :: xs, h => by simpa only [tames] using ⟨h x (List.mem_cons_self ..), tames_of fun y m => h y (List.mem_cons_of_mem _ m)⟩
theorem name_chars {x : Str} (h : isName (.str x) = true) : x.length ≤ 8 ∧ 1 ≤ x.length ∧ ∀ c ∈ x.cps.toList, c < 128 := by
  simp only [isName, Bool.and_eq_true, decide_eq_true_eq, List.all_eq_true] at h
  exact ⟨h.1.2, h.1.1, fun c m => (by decide +kernel : ∀ c ∈ abc.cps.toList, c < 128) c (h.2 c m)⟩
theorem name_fine {x : Str} (n : Nat) (h : isName (.str x) = true) : fine n (.str x) = true := by
  have e : fine n (.str x) = PyData.strOk x := by cases n <;> rfl
  rw [e]
  exact strOk_of fun c m => Nat.lt_trans ((name_chars h).2.2 c m) (by decide)
theorem is_name_eq {v : P} (h : tame v) (S : Store) : m_is_name [.p v] S = .ok (.p (.bl (isName v))) S := by
  rw [m_is_name_e]
  unfold f_is_name
  cases v with
  | str z =>
    simp only [tame] at h
    have hz : z.length ≤ 16777216 := by omega
    have e1 : decide (1 ≤ z.length) = decide ((1 : Int) ≤ (z.length : Int)) := decide_eq_decide.mpr (by omega)
    have e2 : decide (z.length ≤ 8) = decide ((z.length : Int) ≤ 8) := decide_eq_decide.mpr (by omega)
    wide_line with [hz, isName, e1, e2]
    cases a1 : decide ((1 : Int) ≤ (z.length : Int)) with
    | false => wide_line
    | true =>
      cases a2 : decide ((z.length : Int) ≤ 8) with
      | false => wide_line with [a2]
      | true =>
        wide_line with [a2]
        rw [lcF_mapM (fun c => P.bl (decide (c ∈ abc.cps.toList))) (fun c m => ⟨_, rfl, by unfold f_is_name_1; wide_line⟩) (by simp [sz]; exact Nat.le_trans h.1 (by decide))]
        wide_line with [bls_map]
        rw [List.all_map]
        rfl
  | ty _ => simp only [tame] at h
  | scr _ => simp only [tame] at h
  | obj _ _ _ => simp only [tame] at h
  | dT _ _ => simp only [tame] at h
  | cel _ => simp only [tame] at h
  | fK _ _ => simp only [tame] at h
  | _ => wide_line with [isName]
theorem is_level_eq {v : P} (h : tame v) (S : Store) : m_is_level [.p v] S = .ok (.p (.bl (isInt v))) S := by
  rw [m_is_level_e]
  unfold f_is_level
  cases v with
  | ty _ => simp only [tame] at h
  | scr _ => simp only [tame] at h
  | obj _ _ _ => simp only [tame] at h
  | dT _ _ => simp only [tame] at h
  | cel _ => simp only [tame] at h
  | fK _ _ => simp only [tame] at h
  | _ => wide_line with [isInt]
theorem need_name_eq {v : P} (h : tame v) (S : Store) : m_need_name [.p v] S = if isName v then .ok (.p .non) S else .ex ⟨"InvalidName", [Str.ofString "value"], [v]⟩ S := by
  rw [m_need_name_e]
  unfold f_need_name
  wide_line with [is_name_eq h]
  cases isName v <;> wide_line
theorem need_level_eq {v : P} (h : tame v) (S : Store) : m_need_level [.p v] S = if isInt v then .ok (.p .non) S else .ex ⟨"InvalidLevel", [Str.ofString "value"], [v]⟩ S := by
  rw [m_need_level_e]
  unfold f_need_level
  wide_line with [is_level_eq h]
  cases isInt v <;> wide_line
def isPos : P → Bool
  | .int t => decide (0 < t)
  | _ => false
def isNo : P → Bool
  | .non => true
  | _ => false
def isBed : P → Bool
  | .tup [a, b, c] => isName a && (isInt b && (isPos b && (isNo c || isName c)))
  | _ => false
theorem isBed_len {xs : List P} (h : ¬ xs.length = 3) : isBed (.tup xs) = false := by
  unfold isBed
  split
  · rename_i a b c e
    cases e
    exact absurd rfl h
  · rfl
theorem is_bed_eq {v : P} (h : tame v) (S : Store) : m_is_bed [.p v] S = .ok (.p (.bl (isBed v))) S := by
  rw [m_is_bed_e]
  unfold f_is_bed
  cases v with
  | tup xs =>
    simp only [tame] at h
    wide_line
    by_cases l : xs.length = 3
    · match xs, l, h with
      | [a, b, c], _, h =>
        simp only [tames] at h
        obtain ⟨_, ta, tb, tc, _⟩ := h
        have e3 : decide (((3 : Nat) : Int) = 3) = true := rfl
        wide_line with [is_name_eq ta, is_level_eq tb, is_name_eq tc, isBed, e3]
        cases isName a with
        | false => wide_line
        | true =>
          wide_line with [is_level_eq tb]
          cases b with
          | int t =>
            wide_line with [isInt, isPos]
            cases decide (0 < t) with
            | false => wide_line
            | true =>
              wide_line with [is_name_eq tc]
              cases c <;> wide_line with [isNo, is_name_eq tc]
          | _ => wide_line with [isInt]
    · have hl : decide (((xs.length : Nat) : Int) = 3) = false := decide_eq_false (by omega)
      wide_line with [hl, isBed_len l]
  | ty _ => simp only [tame] at h
  | scr _ => simp only [tame] at h
  | obj _ _ _ => simp only [tame] at h
  | dT _ _ => simp only [tame] at h
  | cel _ => simp only [tame] at h
  | fK _ _ => simp only [tame] at h
  | _ => wide_line with [isBed]
theorem bed_cases {v : P} (h : isBed v = true) : ∃ (x : Str) (t : Int) (m : P), v = .tup [.str x, .int t, m] ∧ isName (.str x) = true ∧ 0 < t ∧ (m = .non ∨ ∃ y, m = .str y ∧ isName (.str y) = true) := by
  unfold isBed at h
  split at h
  · rename_i a b c
    simp only [Bool.and_eq_true, Bool.or_eq_true] at h
    obtain ⟨h1, h2, h3, h4⟩ := h
    cases a with
    | str x =>
      cases b with
      | int t =>
        refine ⟨x, t, c, rfl, h1, of_decide_eq_true h3, ?_⟩
        rcases h4 with h4 | h4
        · cases c with
          | non => exact .inl rfl
          | _ => cases h4
        · cases c with
          | str y => exact .inr ⟨y, rfl, h4⟩
          | _ => cases h4
      | _ => cases h2
    | _ => cases h1
  · cases h
def rockOf : P → Str
  | .tup (.str x :: _) => x
  | _ => Str.ofString ""
def markOf : P → P
  | .tup [_, _, m] => m
  | _ => .non
def sameBed (a b : P) : Bool := decide (rockOf a = rockOf b) && isNo (markOf a)
theorem is_same_bed_eq {a b : P} (ha : isBed a = true) (hb : isBed b = true) (S : Store) : m_is_same_bed [.p a, .p b] S = .ok (.p (.bl (sameBed a b))) S := by
  obtain ⟨x, t, m, rfl, x1, _, x3⟩ := bed_cases ha
  obtain ⟨y, u, k, rfl, y1, _, _⟩ := bed_cases hb
  rw [m_is_same_bed_e]
  unfold f_is_same_bed
  wide_line with [atI0, atI2, eq_P (name_fine 64 x1) (name_fine 64 y1), peq, sameBed, rockOf, markOf]
  by_cases c : x = y
  · rcases x3 with rfl | ⟨y', rfl, _⟩ <;> wide_line with [isNo, c]
  · wide_line with [c]
def itemsP : P → Option (List P)
  | .lst xs => some xs
  | .tup xs => some xs
  | _ => none
def lieWell : List P → Bool
  | a :: b :: r => !sameBed a b && lieWell (b :: r)
  | _ => true
def areBeds (v : P) : Bool := match itemsP v with
  | some xs => xs.all isBed && lieWell xs
  | none => false
theorem any_zip : ∀ xs : List P, ((xs.zip (xs.drop 1)).map fun q => sameBed q.1 q.2).any id = !lieWell xs
  | [] => rfl
  | [_] => rfl
  | a :: b :: r => by
    have ih := any_zip (b :: r)
    simp only [List.drop_succ_cons, List.drop_zero, List.zip_cons_cons, List.map_cons, List.any_cons, lieWell] at ih ⊢
    rw [ih]
    cases sameBed a b <;> simp
theorem are_beds_eq {v : P} (h : tame v) (S : Store) : m_are_beds [.p v] S = .ok (.p (.bl (areBeds v))) S := by
  rw [m_are_beds_e]
  unfold f_are_beds
  have key : ∀ xs : List P, xs.length ≤ 1000 → tames xs → lcF (.nm 1) wYes f_are_beds_1 [some (.p v), none, none, none] (xs.map D.p) 0 S = .ok (xs.map fun x => P.bl (isBed x)) S := fun xs hl ht =>
    lcF_mapM _ (fun x m => ⟨_, rfl, by unfold f_are_beds_1; wide_line with [is_bed_eq (ht.mem m)]⟩) (by rw [sz]; omega)
  have key2 : ∀ xs : List P, xs.length ≤ 1000 → (∀ x ∈ xs, isBed x = true) → lcF (.tp [2, 3]) wYes f_are_beds_2 [some (.p v), none, none, none] ((xs.zip (xs.drop 1)).map pairD) 0 S = .ok ((xs.zip (xs.drop 1)).map fun q => P.bl (sameBed q.1 q.2)) S := fun xs hl hb =>
    lcF_mapM (fun (q : P × P) => P.bl (sameBed q.1 q.2)) (fun (q : P × P) m => by
      have m1 := (List.of_mem_zip (show (q.1, q.2) ∈ _ from m)).1
      have m2 := List.mem_of_mem_drop (List.of_mem_zip (show (q.1, q.2) ∈ _ from m)).2
      exact ⟨_, rfl, by unfold f_are_beds_2; wide_line with [is_same_bed_eq (hb _ m1) (hb _ m2)]⟩) (by
        rw [sz, List.length_zip]
        omega)
  have e1 : ∀ xs : List P, (xs.map isBed).all id = xs.all isBed := fun xs => by rw [List.all_map]; rfl
  have e2 : ∀ xs : List P, ((xs.zip (xs.drop 1)).map fun q => P.bl (sameBed q.1 q.2)) = ((xs.zip (xs.drop 1)).map fun q => P.bl ((fun q : P × P => sameBed q.1 q.2) q)) := fun _ => rfl
  cases v with
  | lst xs =>
    simp only [tame] at h
    wide_line with [key xs h.1 h.2, bls_map, areBeds, itemsP, e1]
    cases c : xs.all isBed with
    | false => wide_line
    | true =>
      wide_line with [cutP_1, key2 xs h.1 (fun x m => List.all_eq_true.mp c x m)]
      rw [e2, bls_map]
      wide_line with [any_zip]
  | tup xs =>
    simp only [tame] at h
    wide_line with [key xs h.1 h.2, bls_map, areBeds, itemsP, e1]
    cases c : xs.all isBed with
    | false => wide_line
    | true =>
      wide_line with [cutP_1, key2 xs h.1 (fun x m => List.all_eq_true.mp c x m)]
      rw [e2, bls_map]
      wide_line with [any_zip]
  | ty _ => simp only [tame] at h
  | scr _ => simp only [tame] at h
  | obj _ _ _ => simp only [tame] at h
  | dT _ _ => simp only [tame] at h
  | cel _ => simp only [tame] at h
  | fK _ _ => simp only [tame] at h
  | _ => wide_line with [areBeds, itemsP]
def pv (c : String) (v : P) : Exc := ⟨c, [Str.ofString "value"], [v]⟩
def colErr (foot beds root mark : P) : Option Exc :=
  if isInt foot = false then some (pv "InvalidLevel" foot)
  else if areBeds beds = false then some (pv "InvalidBeds" beds)
  else if isNo root = false ∧ isName root = false then some (pv "InvalidName" root)
  else if isNo mark = false ∧ isName mark = false then some (pv "InvalidName" mark)
  else none
def intOf : P → Int
  | .int i => i
  | _ => 0
def thick : P → Int
  | .tup [_, .int t, _] => t
  | _ => 0
def colNames : List Str := [Str.ofString "foot", Str.ofString "beds", Str.ofString "root", Str.ofString "mark", Str.ofString "top"]
def colP (foot : Int) (beds : List P) (root mark : P) : P := .obj "Column" colNames [.int foot, .tup beds, root, mark, .int (foot + (beds.map thick).sum)]
def colC (foot : Int) (beds : List P) (root mark : P) : Cell := .obj "Column" colNames [.int foot, .tup beds, root, mark, .int (foot + (beds.map thick).sum)]
theorem init_name {v : P} (h : tame v) (a b c d e i j k : Option D) (S : Store) : f_Column___init___1 [a, b, c, d, e, some (.p v), i, j, k] S = if isNo v = false ∧ isName v = false then .ex [a, b, c, d, e, some (.p v), i, j, k] (pv "InvalidName" v) S else .nx [a, b, c, d, e, some (.p v), i, j, k] S := by
  unfold f_Column___init___1
  wide_line with [need_name_eq h, pv]
  cases v <;> wide_line with [isNo]
  all_goals (split <;> simp_all [dropK])
theorem col_init {foot beds root mark : P} (hf : tame foot) (hb : tame beds) (hr : tame root) (hm : tame mark) (S : Store) : m_Column___init__ [.cell S.length, .p foot, .p beds, .p root, .p mark] (S ++ [.obj "Column" [] []]) =
    match colErr foot beds root mark with
    | some x => .ex x (S ++ [.obj "Column" [] []])
    | none => .ok (.p .non) (S ++ [colC (intOf foot) ((itemsP beds).getD []) root mark]) := by
  rw [m_Column___init___e]
  unfold f_Column___init__ colErr
  wide_line with [need_level_eq hf, are_beds_eq hb]
  cases c1 : isInt foot with
  | false => wide_line with [pv]
  | true =>
    obtain ⟨i, rfl⟩ : ∃ i, foot = .int i := by
      cases foot <;> simp [isInt] at c1
      exact ⟨_, rfl⟩
    wide_line with [are_beds_eq hb]
    cases c2 : areBeds beds with
    | false => wide_line with [pv]
    | true =>
      wide_line
      rw [init_name hr]
      by_cases c3 : isNo root = false ∧ isName root = false
      · rw [if_pos c3, if_pos c3]
        wide_line with [pv]
      · rw [if_neg c3, if_neg c3]
        wide_line
        rw [init_name hm]
        by_cases c4 : isNo mark = false ∧ isName mark = false
        · rw [if_pos c4, if_pos c4]
          wide_line with [pv]
        · rw [if_neg c4, if_neg c4]
          obtain ⟨xs, e1, e2⟩ : ∃ xs, itemsP beds = some xs ∧ xs.all isBed = true := by
            unfold areBeds at c2
            split at c2
            · rename_i xs e
              simp only [Bool.and_eq_true] at c2
              exact ⟨xs, e, c2.1⟩
            · cases c2
          have hl : xs.length ≤ 1000 := by
            cases beds <;> simp only [itemsP, reduceCtorEq, Option.some.injEq] at e1 <;> subst e1 <;> simp only [tame] at hb <;> exact hb.1
          have ks : ∀ (a b c d e g : Option D) (S : Store), lcF (.tp [6, 7, 8]) wYes f_Column___init___2 [a, b, c, d, e, g, none, none, none] (xs.map D.p) 0 S = .ok (xs.map fun x => .int (thick x)) S := fun a b c d e g S =>
            lcF_mapM (fun x => .int (thick x)) (fun x m => by
              obtain ⟨n, th, mk, rfl, _⟩ := bed_cases (List.all_eq_true.mp e2 x m)
              exact ⟨_, rfl, by unfold f_Column___init___2; wide_line with [thick]⟩) (by rw [sz]; omega)
          cases beds <;> simp only [itemsP, reduceCtorEq, Option.some.injEq] at e1
          case lst ys =>
            subst e1
            wide_line with [ks, intsP_map, colC, colNames, intOf, itemsP, Option.getD_some]
          case tup ys =>
            subst e1
            wide_line with [ks, intsP_map, colC, colNames, intOf, itemsP, Option.getD_some]
structure Feed where
  cs : List Int
  at_ : Int
  left : Int
abbrev fk : List Key := [.inr (Str.ofString "cells"), .inr (Str.ofString "at"), .inr (Str.ofString "left")]
def feedC (f : Feed) : Cell := .dK fk [.lst (f.cs.map P.int), .int f.at_, .int f.left]
structure FOk (f : Feed) : Prop where
  cs : f.cs.length ≤ 63
  at0 : 0 ≤ f.at_
  le0 : 0 ≤ f.left
def Fd (n : Nat) (c : Cell) : Prop := ∃ f, c = feedC f ∧ FOk f ∧ f.at_ + n ≤ 1099511627776
theorem Fd.le {n m : Nat} {c : Cell} (h : Fd n c) (e : m ≤ n) : Fd m c := let ⟨f, h1, h2, h3⟩ := h; ⟨f, h1, h2, by omega⟩
theorem mulOk_of {i j : Int} (a b : Nat) (hi : i.natAbs < 2 ^ a) (hj : j.natAbs < 2 ^ b) (ha : 0 < a) (hb : 0 < b) (h : a + b ≤ 1000000) : mulOk i j = true := by
  have l : ∀ (n k : Nat), n < 2 ^ k → 0 < k → n.log2 < k := fun n k h0 hk => by
    by_cases e : n = 0
    · subst e; simpa using hk
    · exact (Nat.log2_lt e).mpr h0
  unfold mulOk
  simp only [decide_eq_true_eq]
  have := l _ _ hi ha
  have := l _ _ hj hb
  omega
theorem get_left {f : Feed} {R : Store} : dDGet (.cell 0) (.p (.str (Str.ofString "left"))) (feedC f :: R) = .ok (.p (.int f.left)) (feedC f :: R) := by
  simp only [dDGet, keyOf, feedC, List.getElem?_cons_zero, fk, klook, Sum.inr.injEq, of_inj, String.reduceEq, if_false, if_true]
theorem get_at {f : Feed} {R : Store} : dDGet (.cell 0) (.p (.str (Str.ofString "at"))) (feedC f :: R) = .ok (.p (.int f.at_)) (feedC f :: R) := by
  simp only [dDGet, keyOf, feedC, List.getElem?_cons_zero, fk, klook, Sum.inr.injEq, of_inj, String.reduceEq, if_false, if_true]
theorem get_cells {f : Feed} {R : Store} : dDGet (.cell 0) (.p (.str (Str.ofString "cells"))) (feedC f :: R) = .ok (.p (.lst (f.cs.map P.int))) (feedC f :: R) := by
  simp only [dDGet, keyOf, feedC, List.getElem?_cons_zero, fk, klook, Sum.inr.injEq, of_inj, String.reduceEq, if_false, if_true]
theorem put_left {f : Feed} {R : Store} {v : Int} : dDPut (.cell 0) (.p (.str (Str.ofString "left"))) (.p (.int v)) (feedC f :: R) = .ok () (feedC { f with left := v } :: R) := by
  simp [dDPut, keyOf, feedC, fk, kset, of_inj, sz]
theorem put_at {f : Feed} {R : Store} {v : Int} : dDPut (.cell 0) (.p (.str (Str.ofString "at"))) (.p (.int v)) (feedC f :: R) = .ok () (feedC { f with at_ := v } :: R) := by
  simp [dDPut, keyOf, feedC, fk, kset, of_inj, sz]
theorem pds_ints : ∀ ns : List Int, fines 63 (ns.map P.int) = true
  | [] => rfl
  | n :: ns => by
    show (fine 63 (P.int n) && fines 63 (ns.map P.int)) = true
    rw [pds_ints ns]
    rfl
theorem ne_nil {xs : List P} {S : Store} (h : fines 63 xs = true) : dEqv true (.p (.lst xs)) (.p (.lst [])) S = .ok (.p (.bl (!xs.isEmpty))) S := by
  rw [eq_P (by simpa [fine] using h) (by simp [fine, fines])]
  cases xs <;> simp [peq, peqs]
theorem eq_nil {xs : List P} {S : Store} (h : fines 63 xs = true) : dEqv false (.p (.lst xs)) (.p (.lst [])) S = .ok (.p (.bl xs.isEmpty)) S := by
  rw [eq_P (by simpa [fine] using h) (by simp [fine, fines])]
  cases xs <;> simp [peq, peqs]
theorem feed2_ok {ns : List Int} (hl : ns.length ≤ 63) : ∃ c, m__law_feed__2 [.p (.scr (ns.map P.int))] [] = .ok (.cell 0) [c] ∧ Fd 1099511627776 c := by
  refine ⟨feedC ⟨ns, 0, 0⟩, ?_, ⟨ns, 0, 0⟩, rfl, ⟨hl, Int.le_refl _, Int.le_refl _⟩, by show (0 : Int) + _ ≤ _; omega⟩
  rw [m__law_feed__2_e]
  unfold f__law_feed__2
  have key : cutP (ns.map P.int) none (some 63) = ns.map P.int := by
    unfold cutP
    rw [HT.sIx_none, List.drop_zero, Nat.sub_zero]
    apply List.take_of_length_le
    show (ns.map P.int).length ≤ HT.sIx _ _ (some ((63 : Nat) : Int))
    rw [HT.sIx_nat, List.length_map]
    omega
  wide_line with [key, nodupB, List.any_cons, List.any_nil, Sum.inr.injEq]
  rfl
theorem atI_primes {x : Int} (h0 : 0 ≤ x) (h1 : x < 5) : ∃ p : Int, atI [P.int 2147483629, .int 2147483647, .int 2147483587, .int 2147483563, .int 2147483579] x = some (.int p) ∧ 0 < p ∧ p < 2147483648 := by
  have q : x = 0 ∨ x = 1 ∨ x = 2 ∨ x = 3 ∨ x = 4 := by omega
  rcases q with rfl | rfl | rfl | rfl | rfl
  · exact ⟨_, rfl, by decide, by decide⟩
  · exact ⟨_, rfl, by decide, by decide⟩
  · exact ⟨_, rfl, by decide, by decide⟩
  · exact ⟨_, rfl, by decide, by decide⟩
  · exact ⟨_, rfl, by decide, by decide⟩
def Drw (n : Nat) (m : FD) (as : List D) (A : P → Prop) : Prop := ∀ k c R, Fd (k + n) c → ∃ v c', m (.cell 0 :: as) (c :: R) = .ok (.p v) (c' :: R) ∧ Fd k c' ∧ A v
def below (m : Int) (v : P) : Prop := ∃ i : Int, v = .int i ∧ 0 ≤ i ∧ i < m
theorem below.mk {m i : Int} (h : 0 < m) : below m (.int (i % m)) := ⟨_, rfl, Int.emod_nonneg _ (by omega), Int.emod_lt_of_pos _ h⟩
theorem draw_ok {many : Int} (h0 : 0 < many) (h1 : many < 2 ^ 64) : Drw 1 m__law_draw [.p (.int many)] (below many) := by
  rintro k c R ⟨f, rfl, ok, hat⟩
  have hat : f.at_ + 1 ≤ 1099511627776 := by omega
  have a0 := ok.at0
  have hlog : many.natAbs.log2 < 9000 := by
    have : many.natAbs < 2 ^ 64 := by omega
    have h2 : many.natAbs ≠ 0 := by omega
    have := (Nat.log2_lt h2).mpr this
    omega
  rw [m__law_draw_e]
  unfold f__law_draw
  wide_line with [get_left]
  by_cases c1 : 0 < f.left
  · wide_line with [get_left, c1, h0, hlog, put_left]
    refine ⟨_, feedC { f with left := f.left / many }, rfl, ⟨_, rfl, ⟨ok.cs, ok.at0, Int.ediv_nonneg ok.le0 (by omega)⟩, by show f.at_ + k ≤ _; omega⟩, below.mk h0⟩
  · have m1 : mulOk 37 f.at_ = true := mulOk_of 64 64 (by decide) (by omega) (by decide) (by decide) (by decide)
    wide_line with [c1, get_at, put_at, m1, get_cells, ne_nil (pds_ints _)]
    generalize hr : wSeq _ _ = rest
    have hF : Fd k (feedC { f with at_ := f.at_ + 1 }) := ⟨_, rfl, ⟨ok.cs, by show 0 ≤ f.at_ + 1; omega, ok.le0⟩, by show f.at_ + 1 + k ≤ _; omega⟩
    suffices key : ∀ v : Int, ∃ v' c', finF (List.length R + 1) (rest [some (.cell 0), some (.p (.int many)), some (.p (.int f.at_)), some (.p (.int v)), none, none, none, none] (feedC { f with at_ := f.at_ + 1 } :: R)) = .ok (.p v') (c' :: R) ∧ Fd k c' ∧ below many v' by
      by_cases c2 : f.cs = []
      · have c3 : (f.cs.map P.int).isEmpty = true := by rw [c2]; rfl
        wide_line with [c3]
        exact key _
      · have c3 : (f.cs.map P.int).isEmpty = false := by cases e : f.cs <;> simp_all
        have c4 : (0 : Int) < ((f.cs.map P.int).length : Nat) := by
          rw [List.length_map]
          have := List.length_pos_iff.mpr c2
          omega
        obtain ⟨x, e1, m⟩ := atI_lt (xs := f.cs.map P.int) (i := f.at_ % ((f.cs.map P.int).length : Nat)) (Int.emod_nonneg _ (by omega)) (Int.emod_lt_of_pos _ c4)
        obtain ⟨v, _, rfl⟩ := List.mem_map.mp m
        have g := get_cells (f := { f with at_ := f.at_ + 1 }) (R := R)
        wide_line with [c3, g, c4, e1]
        exact key _
    subst hr
    intro v
    have ok1 : FOk { f with at_ := f.at_ + 1 } := ⟨ok.cs, by show 0 ≤ f.at_ + 1; omega, ok.le0⟩
    have hk1 : ({ f with at_ := f.at_ + 1 } : Feed).at_ + k ≤ 1099511627776 := by show f.at_ + 1 + k ≤ _; omega
    generalize { f with at_ := f.at_ + 1 } = f1 at hF ok1 hk1
    wide_line with [get_cells]
    generalize hr : wSeq (wSet 4 _) _ = rest
    suffices key : ∃ v' c', finF (List.length R + 1) (rest [some (.cell 0), some (.p (.int many)), some (.p (.int f.at_)), some (.p (.int v)), none, none, none, none] (feedC f1 :: R)) = .ok (.p v') (c' :: R) ∧ Fd k c' ∧ below many v' by
      by_cases c5 : f.at_ < ((f1.cs.map P.int).length : Nat)
      · by_cases c6 : 1000000000000000000 ≤ (if v < 0 then -v else v)
        · have c7 : decide (1000000000000000000 ≤ (if v < 0 then -v else v)) = true := decide_eq_true c6
          wide_line with [c5, c7, h0, hlog, put_left]
          exact ⟨_, feedC { f1 with left := _ }, rfl, ⟨_, rfl, ⟨ok1.cs, ok1.at0, Int.ediv_nonneg (by omega) (by omega)⟩, hk1⟩, below.mk h0⟩
        · have c7 : decide (1000000000000000000 ≤ (if v < 0 then -v else v)) = false := decide_eq_false c6
          wide_line with [c5, c7]
          exact key
      · wide_line with [c5]
        exact key
    subst hr
    obtain ⟨p1, e1, p1a, p1b⟩ := atI_primes (Int.emod_nonneg f.at_ (by decide)) (Int.emod_lt_of_pos f.at_ (b := 5) (by decide))
    obtain ⟨p2, e2, p2a, p2b⟩ := atI_primes (Int.emod_nonneg (f.at_ + 2) (by decide)) (Int.emod_lt_of_pos (f.at_ + 2) (b := 5) (by decide))
    have v0 := Int.emod_nonneg v (show p1 ≠ 0 by omega)
    have v1 := Int.emod_lt_of_pos v p1a
    have m2 : mulOk (v % p1) 48271 = true := mulOk_of 64 64 (by omega) (by decide) (by decide) (by decide) (by decide)
    have m3 : mulOk 40699 f.at_ = true := mulOk_of 64 64 (by decide) (by omega) (by decide) (by decide) (by decide)
    have m4 : mulOk (40699 * f.at_) f.at_ = true := mulOk_of 64 64 (by omega) (by omega) (by decide) (by decide) (by decide)
    have m5 : mulOk 69621 f.at_ = true := mulOk_of 64 64 (by decide) (by omega) (by decide) (by decide) (by decide)
    wide_line with [e1, p1a, m2, m3, m4, m5]
    have u0 := Int.emod_nonneg (v % p1 * 48271 + 40699 * f.at_ * f.at_ + 69621 * f.at_ + 7) (show p1 ≠ 0 by omega)
    have u1 := Int.emod_lt_of_pos (v % p1 * 48271 + 40699 * f.at_ * f.at_ + 69621 * f.at_ + 7) p1a
    generalize (v % p1 * 48271 + 40699 * f.at_ * f.at_ + 69621 * f.at_ + 7) % p1 = u at u0 u1
    have m6 : mulOk u (u + 16807) = true := mulOk_of 64 64 (by omega) (by omega) (by decide) (by decide) (by decide)
    wide_line with [e2, p2a, m6]
    have y0 := Int.emod_nonneg (u * (u + 16807)) (show p2 ≠ 0 by omega)
    have y1 := Int.emod_lt_of_pos (u * (u + 16807)) p2a
    generalize (u * (u + 16807)) % p2 = y at y0 y1
    have m7 : mulOk y y = true := mulOk_of 64 64 (by omega) (by omega) (by decide) (by decide) (by decide)
    have l64 : Nat.log2 64 < 9000 := by decide
    wide_line with [m7, h0, l64]
    exact ⟨_, _, rfl, ⟨_, rfl, ok1, hk1⟩, below.mk h0⟩
theorem pick_ok {xs : List P} (h0 : 0 < xs.length) (h1 : xs.length < 2 ^ 64) : Drw 1 m__law_pick [.p (.lst xs)] (fun v => v ∈ xs) := by
  intro k c R hF
  obtain ⟨v, c', e, hF', i, rfl, i0, i1⟩ := draw_ok (many := xs.length) (by omega) (by omega) k c R hF
  obtain ⟨x, e2, hx⟩ := atI_lt i0 i1
  refine ⟨x, c', ?_, hF', hx⟩
  rw [m__law_pick_e]
  unfold f__law_pick
  wide_line with [e, e2]
theorem pickS_ok {z : Str} (h0 : 0 < z.length) (h1 : z.length ≤ 1000) : Drw 1 m__law_pick [.p (.str z)] (fun v => ∃ c ∈ z.cps.toList, v = .str ⟨#[c]⟩) := by
  intro k c R hF
  obtain ⟨v, c', e, hF', i, rfl, i0, i1⟩ := draw_ok (many := z.length) (by omega) (by omega) k c R hF
  have hz : z.cps.toList.length = z.length := by simp [Str.length]
  obtain ⟨x, e2, hx⟩ := atI_lt (xs := z.cps.toList) i0 (by rw [hz]; exact i1)
  refine ⟨.str ⟨#[x]⟩, c', ?_, hF', x, hx, rfl⟩
  rw [m__law_pick_e]
  unfold f__law_pick
  have hz : z.length ≤ 16777216 := by omega
  wide_line with [e, e2, hz]
def lets (z : Str) : Prop := ∀ c ∈ z.cps.toList, c ∈ abc.cps.toList
theorem app_l (a b : Str) : (a ++ b).cps.toList = a.cps.toList ++ b.cps.toList := PySem.W.KT.app_list a b
theorem len_l (a : Str) : a.cps.toList.length = a.length := Array.length_toList
theorem len_app (a b : Str) : (a ++ b).length = a.length + b.length := Str.length_append _ _
theorem lets_app {a b : Str} (ha : lets a) (hb : lets b) : lets (a ++ b) := fun c m => by
  rw [app_l, List.mem_append] at m
  exact m.elim (ha c) (hb c)
theorem cut_l (z : Str) (lo hi : Option Int) : (cutS z lo hi).cps.toList = (z.cps.toList.drop (HT.sIx z.length 0 lo)).take (HT.sIx z.length z.length hi - HT.sIx z.length 0 lo) := rfl
theorem mem_cutS {z : Str} {lo hi : Option Int} {c : Nat} (m : c ∈ (cutS z lo hi).cps.toList) : c ∈ z.cps.toList := by
  rw [cut_l] at m
  exact List.mem_of_mem_drop (List.mem_of_mem_take m)
theorem lets_cut {z : Str} {lo hi : Option Int} (h : lets z) : lets (cutS z lo hi) := fun c m => h c (mem_cutS m)
theorem cut_hi {z : Str} {k : Int} (h : 0 ≤ k) : ((cutS z none (some k)).length : Int) ≤ k := by
  rw [← len_l, cut_l, HT.sIx_none, List.length_take, List.length_drop]
  obtain ⟨n, rfl⟩ := Int.eq_ofNat_of_zero_le h
  rw [HT.sIx_nat]
  omega
theorem cut_lo {z : Str} {k : Int} (h : 0 ≤ k) (h1 : k ≤ z.length) : ((cutS z (some k) none).length : Int) = z.length - k := by
  rw [← len_l, cut_l, HT.sIx_none, List.length_take, List.length_drop]
  obtain ⟨n, rfl⟩ := Int.eq_ofNat_of_zero_le h
  rw [HT.sIx_nat, len_l]
  omega
theorem strsP_map {α : Type} (f : α → Str) : ∀ cs : List α, strsP (cs.map fun c => P.str (f c)) = some (cs.map f)
  | [] => rfl
  | c :: cs => by
    show (strsP (cs.map fun c => P.str (f c))).map _ = _
    rw [strsP_map f cs]
    rfl
theorem join_is (a : Str) (ys : List Str) : Txt.join a ys = Str.join a ys := StrLaws.glued_eq_join a ys
theorem join_chars : ∀ cs : List Nat, (Txt.join (Str.ofString "") (cs.map fun c => (⟨#[c]⟩ : Str))).cps.toList = cs
  | [] => rfl
  | [c] => rfl
  | c :: d :: r => by
    have ih := join_chars (d :: r)
    rw [join_is] at ih ⊢
    show ((⟨#[c]⟩ : Str) ++ Str.ofString "" ++ Str.join (Str.ofString "") ((d :: r).map fun c => (⟨#[c]⟩ : Str))).cps.toList = _
    rw [app_l, app_l, ih]
    rfl
theorem name_of {z : Str} (h1 : 1 ≤ z.length) (h2 : z.length ≤ 8) (h3 : lets z) : isName (.str z) = true := by
  simp only [isName, h1, h2, decide_true, Bool.true_and, List.all_eq_true, decide_eq_true_eq]
  exact h3
theorem rng_len {lo : Int} {n : Nat} : (rngD lo n).length = n := by simp [rngD]
theorem in62_of {i : Int} (h0 : -1000000000 ≤ i) (h1 : i ≤ 1000000000) : in62 i = true := by
  unfold in62
  simp only [Bool.and_eq_true, decide_eq_true_eq]
  omega
theorem lcF_drw {T : Tgt} {fe : FE} {r0 : Rho} {R : Store} (n : Nat) (A : P → Prop) {ds : List D} {k : Nat} {c : Cell} (hF : Fd (k + n * ds.length) c) (h : ∀ d ∈ ds, ∀ j c, Fd (j + n) c → ∃ r x c', bindT T d r0 = some r ∧ fe r (c :: R) = .ok (.p x) (c' :: R) ∧ Fd j c' ∧ A x) (hl : ds.length ≤ 1000) :
    ∃ xs c', lcF T wYes fe r0 ds 0 (c :: R) = .ok xs (c' :: R) ∧ Fd k c' ∧ xs.length = ds.length ∧ ∀ x ∈ xs, A x := by
  obtain ⟨xs, S', h1, ⟨c', rfl, h2⟩, h3, h4⟩ := lcF_inv (T := T) (fe := fe) (r0 := r0) (fun j S => ∃ c, S = c :: R ∧ Fd (k + n * j) c) A (ds := ds) (n := 0) (k := 0) (S := c :: R) ⟨c, rfl, hF.le (by rw [Nat.zero_add]; exact Nat.le_refl _)⟩ (fun d m j S ⟨c, e, hc⟩ => by
    subst e
    obtain ⟨r, x, c', g1, g2, g3, g4⟩ := h d m (k + n * j) c (hc.le (by rw [Nat.mul_succ]; omega))
    exact ⟨r, x, _, g1, g2, ⟨c', rfl, g3⟩, g4⟩) (by rw [sz]; omega)
  exact ⟨xs, c', h1, h2.le (by omega), h3, h4⟩
theorem chars_of : ∀ {xs : List P}, (∀ x ∈ xs, ∃ c ∈ abc.cps.toList, x = .str ⟨#[c]⟩) → ∃ cs : List Nat, xs = cs.map (fun c => P.str ⟨#[c]⟩) ∧ ∀ c ∈ cs, c ∈ abc.cps.toList
  | [], _ => ⟨[], rfl, fun _ m => nomatch m⟩
  | x :: xs, h => by
    obtain ⟨c, m, rfl⟩ := h x (List.mem_cons_self ..)
    obtain ⟨cs, rfl, g⟩ := chars_of fun y m => h y (List.mem_cons_of_mem _ m)
    exact ⟨c :: cs, rfl, fun y m' => by
      rcases List.mem_cons.mp m' with rfl | m'
      · exact m
      · exact g y m'⟩
theorem lcF_exM {α : Type} {F : α → D} {T : Tgt} {fe : FE} {r0 : Rho} {S : Store} (A : α → P → Prop) : ∀ {xs : List α} {n : Nat}, (∀ x ∈ xs, ∃ r v, bindT T (F x) r0 = some r ∧ fe r S = .ok (.p v) S ∧ A x v) → n + xs.length ≤ sizeLine →
    ∃ vs, lcF T wYes fe r0 (xs.map F) n S = .ok vs S ∧ vs.length = xs.length ∧ ∀ (i : Nat) x v, xs[i]? = some x → vs[i]? = some v → A x v
  | [], n, _, _ => ⟨[], rfl, rfl, fun i x v h _ => by simp at h⟩
  | d :: ds, n, h, hl => by
    obtain ⟨r, v, h1, h2, h3⟩ := h d (List.mem_cons_self ..)
    have hl : n + (ds.length + 1) ≤ sizeLine := hl
    obtain ⟨vs, g1, g2, g3⟩ := lcF_exM A (xs := ds) (n := n + 1) (fun x m => h x (List.mem_cons_of_mem _ m)) (by omega)
    refine ⟨v :: vs, ?_, by simp [g2], fun i x y e1 e2 => ?_⟩
    · rw [List.map_cons]
      unfold lcF
      rw [h1]
      dsimp only [wYes]
      rw [h2]
      have hb : decide (n < sizeLine) = true := decide_eq_true (by omega)
      dsimp only
      rw [hb]
      dsimp only
      rw [g1]
      rfl
    · cases i with
      | zero =>
        simp only [List.getElem?_cons_zero, Option.some.injEq] at e1 e2
        subst e1; subst e2
        exact h3
      | succ i =>
        simp only [List.getElem?_cons_succ] at e1 e2
        exact g3 i x y e1 e2
theorem rngD_map {lo : Int} {n : Nat} : rngD lo n = (List.range n).map fun (i : Nat) => D.p (.int (lo + (i : Int))) := rfl
theorem atI_natP {xs : List P} {i : Nat} {x : P} (h : xs[i]? = some x) : atI xs (i : Int) = some x := by
  have hi := (List.getElem?_eq_some_iff.mp h).1
  unfold atI ixN
  rw [if_pos (by omega), if_pos (by omega)]
  simpa using h
theorem names_ok {many : Int} (h0 : 0 ≤ many) (h1 : many ≤ 26) : Drw 13 m__law_names [.p (.int many)] (fun v => ∃ xs, v = .lst xs ∧ (xs.length : Int) = many ∧ ∀ x ∈ xs, isName x = true) := by
  intro k c R hF
  rw [m__law_names_e]
  unfold f__law_names
  obtain ⟨_, c1, e1, F1, n, rfl, n0, n1⟩ := draw_ok (many := 8) (by decide) (by decide) (k + 12) c R hF
  have hn := in62_of (i := 1 + n) (by omega) (by omega)
  wide_line with [e1, hn]
  have lab : abc.length = 26 := by decide +kernel
  obtain ⟨xs, c2, e2, F2, l2, hx⟩ := lcF_drw (T := .nm 10) (fe := f__law_names_1) (r0 := [some (.cell 0), some (.p (.int many)), some (.p (.str abc)), none, none, none, none, none, none, none, none]) (R := R) 1 (fun x => ∃ c ∈ abc.cps.toList, x = .str ⟨#[c]⟩) (ds := rngD 0 (1 + n).toNat) (k := k + 4) (c := c1) (F1.le (by rw [rng_len]; omega)) (fun d m j c hc => by
    obtain ⟨v, c', g1, g2, g3⟩ := pickS_ok (z := abc) (by omega) (by omega) j c R hc
    exact ⟨_, v, c', rfl, by unfold f__law_names_1; wide_line with [g1], g2, g3⟩) (by rw [rng_len]; omega)
  rw [rng_len] at l2
  obtain ⟨cs, rfl, hcs⟩ := chars_of hx
  rw [List.length_map] at l2
  have z0 : (Str.ofString "").length = 0 := by decide +kernel
  have zs : ((cs.map fun c => (⟨#[c]⟩ : Str)).map (·.length)).sum + (cs.map fun c => (⟨#[c]⟩ : Str)).length * 0 ≤ 16777216 := by
    have : ∀ cs : List Nat, ((cs.map fun c => (⟨#[c]⟩ : Str)).map (·.length)).sum = cs.length := fun cs => by
      induction cs with
      | nil => rfl
      | cons c cs ih => rw [List.map_cons, List.map_cons, List.sum_cons, ih, List.length_cons]; show 1 + _ = _; omega
    rw [this]
    omega
  wide_line with [e2, strsP_map, z0, zs]
  have jc := join_chars cs
  generalize Txt.join (Str.ofString "") (cs.map fun c => (⟨#[c]⟩ : Str)) = b at jc
  have lb : (b.length : Int) = 1 + n := by rw [← len_l, jc]; omega
  have bl : lets b := fun c m => hcs c (by rw [← jc]; exact m)
  have hb : b.length ≤ 16777216 := by omega
  obtain ⟨_, c3, e3, F3, at_, rfl, a0, a1⟩ := draw_ok (many := b.length) (by omega) (by omega) (k + 3) c2 R F2
  obtain ⟨_, c4, e4, F4, bg, rfl, bg0, bg1⟩ := draw_ok (many := 26) (by decide) (by decide) (k + 2) c3 R F3
  obtain ⟨_, c5, e5, F5, sh, rfl, s0, s1⟩ := draw_ok (many := 2) (by decide) (by decide) (k + 1) c4 R F4
  obtain ⟨stp, c6, e6, F6, hstp⟩ := pick_ok (xs := [.int 1, .int 3, .int 5, .int 7, .int 9, .int 11, .int 15, .int 17, .int 19, .int 21, .int 23, .int 25]) (by decide) (by decide) k c5 R F5
  obtain ⟨st, rfl, st0, st1⟩ : ∃ s : Int, stp = .int s ∧ 0 ≤ s ∧ s ≤ 25 := by
    simp only [List.mem_cons, List.not_mem_nil, or_false] at hstp
    rcases hstp with rfl | rfl | rfl | rfl | rfl | rfl | rfl | rfl | rfl | rfl | rfl | rfl <;> exact ⟨_, rfl, by decide, by decide⟩
  have hm := in62_of (i := many) (by omega) (by omega)
  wide_line with [hb, e3, e4, e5, e6, hm, rngD_map]
  have nl : many.toNat ≤ 26 := by omega
  obtain ⟨sg, g1, l1, q1⟩ := lcF_exM (F := fun (i : Nat) => D.p (.int (0 + (i : Int)))) (T := .nm 10) (fe := f__law_names_2) (r0 := [some (.cell 0), some (.p (.int many)), some (.p (.str abc)), some (.p (.str b)), some (.p (.int st)), none, none, some (.p (.int at_)), some (.p (.int bg)), some (.p (.int sh)), none]) (S := c6 :: R) (fun _ v => ∃ c ∈ abc.cps.toList, v = .str ⟨#[c]⟩) (xs := List.range many.toNat) (n := 0) (fun i m => by
    have hi : i < many.toNat := List.mem_range.mp m
    have mo : mulOk st (0 + (i : Int)) = true := mulOk_of 64 64 (by omega) (by omega) (by decide) (by decide) (by decide)
    obtain ⟨x, e7, hx⟩ := atI_lt (xs := abc.cps.toList) (i := (bg + st * (0 + (i : Int))) % 26) (Int.emod_nonneg _ (by decide)) (by rw [len_l, lab]; exact Int.emod_lt_of_pos _ (by decide))
    have la : abc.length ≤ 16777216 := by omega
    exact ⟨_, .str ⟨#[x]⟩, rfl, by unfold f__law_names_2; wide_line with [mo, e7, la], x, hx, rfl⟩) (by rw [sz, List.length_range]; omega)
  rw [List.length_range] at l1
  wide_line with [g1, hm, rngD_map]
  obtain ⟨tl, g2, l2', q2⟩ := lcF_exM (F := fun (i : Nat) => D.p (.int (0 + (i : Int)))) (T := .nm 10) (fe := f__law_names_3) (r0 := [some (.cell 0), some (.p (.int many)), some (.p (.str abc)), some (.p (.str b)), some (.p (.int st)), some (.p (.lst sg)), none, some (.p (.int at_)), some (.p (.int bg)), some (.p (.int sh)), none]) (S := c6 :: R) (fun _ v => ∃ z, v = .str z ∧ lets z ∧ (z.length : Int) ≤ b.length - (at_ + 1)) (xs := List.range many.toNat) (n := 0) (fun i m => by
    have hi : i < many.toNat := List.mem_range.mp m
    obtain ⟨x, e7, hx⟩ := atI_lt (xs := [P.int 8, .int ((0 + (i : Int)) % 3)]) (i := sh) s0 (by show sh < 2; exact s1)
    obtain ⟨w, rfl⟩ : ∃ w, x = .int w := by
      simp only [List.mem_cons, List.not_mem_nil, or_false] at hx
      rcases hx with rfl | rfl <;> exact ⟨_, rfl⟩
    have c1 := cut_lo (z := b) (k := at_ + 1) (by omega) (by omega)
    have c2 := cutS_length (cutS b (some (at_ + 1)) none) none (some w)
    have hz : (cutS b (some (at_ + 1)) none).length ≤ 16777216 := by omega
    exact ⟨_, .str (cutS (cutS b (some (at_ + 1)) none) none (some w)), rfl, by unfold f__law_names_3; wide_line with [e7, hb, hz], _, rfl, lets_cut (lets_cut bl), by omega⟩) (by rw [sz, List.length_range]; omega)
  rw [List.length_range] at l2'
  wide_line with [hm, rngD_map, g2]
  obtain ⟨nm, g3, l3, q3⟩ := lcF_exM (F := fun (i : Nat) => D.p (.int (0 + (i : Int)))) (T := .nm 10) (fe := f__law_names_4) (r0 := [some (.cell 0), some (.p (.int many)), some (.p (.str abc)), some (.p (.str b)), some (.p (.int st)), some (.p (.lst sg)), some (.p (.lst tl)), some (.p (.int at_)), some (.p (.int bg)), some (.p (.int sh)), none]) (S := c6 :: R) (fun _ v => isName v = true) (xs := List.range many.toNat) (n := 0) (fun i m => by
    have hi : i < many.toNat := List.mem_range.mp m
    have ei : (List.range many.toNat)[i]? = some i := by simp [hi]
    have h1 : sg[i]? = some sg[i] := List.getElem?_eq_getElem (by omega)
    have h2 : tl[i]? = some tl[i] := List.getElem?_eq_getElem (by omega)
    obtain ⟨ch, mc, e8⟩ := q1 i i _ ei h1
    obtain ⟨tz, e9, tz1, tz2⟩ := q2 i i _ ei h2
    have p1 := atI_natP h1
    have p2 := atI_natP h2
    rw [e8] at p1
    rw [e9] at p2
    have c1 := cut_hi (z := b) (k := at_) a0
    have lc : (⟨#[ch]⟩ : Str).length = 1 := rfl
    have s1 : (cutS b none (some at_)).length + (⟨#[ch]⟩ : Str).length ≤ 16777216 := by omega
    have s2 : (cutS b none (some at_) ++ (⟨#[ch]⟩ : Str)).length + tz.length ≤ 16777216 := by rw [len_app]; omega
    have p1' : atI sg (0 + (i : Int)) = some (.str ⟨#[ch]⟩) := by rw [Int.zero_add]; exact p1
    have p2' : atI tl (0 + (i : Int)) = some (.str tz) := by rw [Int.zero_add]; exact p2
    refine ⟨_, .str (cutS b none (some at_) ++ (⟨#[ch]⟩ : Str) ++ tz), rfl, by unfold f__law_names_4; wide_line with [p1', p2', hb, s1, s2], name_of ?_ ?_ (lets_app (lets_app (lets_cut bl) fun c m => ?_) tz1)⟩
    · rw [len_app, len_app]; omega
    · rw [len_app, len_app]; omega
    · have e : c = ch := by simpa using m
      rw [e]; exact mc) (by rw [sz, List.length_range]; omega)
  rw [List.length_range] at l3
  wide_line with [hm, rngD_map, g3]
  refine ⟨_, _, rfl, F6, nm, rfl, by omega, fun x m => ?_⟩
  obtain ⟨i, hi, e⟩ := List.getElem_of_mem m
  exact q3 i i x (by rw [List.getElem?_range (by omega)]) (by rw [← e]; exact List.getElem?_eq_getElem hi)
def isLvl (v : P) : Prop := ∃ i : Int, v = .int i ∧ -10 ^ 30 ≤ i ∧ i ≤ 10 ^ 30
theorem level_ok : Drw 4 m__law_level [] isLvl := by
  intro k c R hF
  rw [m__law_level_e]
  unfold f__law_level
  obtain ⟨_, c1, e1, F1, a, rfl, a0, a1⟩ := draw_ok (many := 19) (by decide) (by decide) (k + 3) c R hF
  obtain ⟨_, c2, e2, F2, b, rfl, b0, b1'⟩ := draw_ok (many := 1000000) (by decide) (by decide) (k + 2) c1 R F1
  obtain ⟨_, c3, e3, F3, d, rfl, d0, d1⟩ := draw_ok (many := 200) (by decide) (by decide) (k + 1) c2 R F2
  obtain ⟨v, c4, e4, F4, hv⟩ := pick_ok (xs := [.int (a - 9), .int (a - 9), .int (a - 9), .int (a - 9), .int (a - 9), .int (a - 9), .int (d - 100), .int (100000000000000000000000000000 + b), .int (0 - (100000000000000000000000000000 + b))]) (by simp) (by simp) k c3 R F3
  wide_line with [e1, e2, e3, e4]
  refine ⟨_, _, rfl, F4, ?_⟩
  simp only [List.mem_cons, List.not_mem_nil, or_false] at hv
  rcases hv with rfl | rfl | rfl | rfl | rfl | rfl | rfl | rfl | rfl <;> exact ⟨_, rfl, by omega, by omega⟩
def isPool (v : P) : Prop := ∃ xs, v = .lst xs ∧ 0 < xs.length ∧ xs.length ≤ 26 ∧ ∀ x ∈ xs, isName x = true
theorem pool_ok : Drw 14 m__law_pool [] isPool := by
  intro k c R hF
  rw [m__law_pool_e]
  unfold f__law_pool
  obtain ⟨_, c1, e1, F1, a, rfl, a0, a1⟩ := draw_ok (many := 4) (by decide) (by decide) (k + 13) c R hF
  obtain ⟨v, c2, e2, F2, xs, rfl, hl, hx⟩ := names_ok (many := 1 + a) (by omega) (by omega) k c1 R F1
  wide_line with [e1, e2]
  exact ⟨_, _, rfl, F2, xs, rfl, by omega, by omega, hx⟩
theorem eq_cell {neg : Bool} {n : Nat} {d : D} {S : Store} {xs : List P} (h : S[n]? = some (.lst xs)) : dEqv neg (.cell n) d S = dEqv neg (.p (.lst xs)) d S := by
  unfold dEqv
  have : pdD S (.cell n) = pdD S (.p (.lst xs)) := by simp only [pdD, h, pd]
  rw [this]
theorem lieWell_snoc {b c : P} : ∀ {ys : List P}, lieWell (ys ++ [b]) = true → sameBed b c = false → lieWell (ys ++ [b] ++ [c]) = true
  | [], _, h2 => by simp [lieWell, h2]
  | [a], h1, h2 => by simp [lieWell, h2] at h1 ⊢; exact h1
  | a :: a' :: r, h1, h2 => by
    have ih := lieWell_snoc (b := b) (c := c) (ys := a' :: r)
    simp only [List.cons_append, lieWell, Bool.and_eq_true] at h1 ih ⊢
    exact ⟨h1.1, ih h1.2 h2⟩
theorem bed_fine {v : P} {n : Nat} (h : isBed v = true) : fine (n + 1) v = true := by
  obtain ⟨x, t, m, rfl, h1, _, h3⟩ := bed_cases h
  have e1 := name_fine n h1
  have e2 : fine n (.int t) = true := by cases n <;> rfl
  have e3 : fine n m = true := by
    rcases h3 with rfl | ⟨y, rfl, h4⟩
    · cases n <;> rfl
    · exact name_fine n h4
  show (fine n (.str x) && (fine n (.int t) && (fine n m && fines n []))) = true
  rw [e1, e2, e3]
  cases n <;> rfl
theorem beds_fines {n : Nat} : ∀ {xs : List P}, (∀ x ∈ xs, isBed x = true) → fines (n + 1) xs = true
  | [], _ => rfl
  | x :: xs, h => by
    simp only [fines, bed_fine (h x (List.mem_cons_self ..)), Bool.true_and]
    exact beds_fines fun y m => h y (List.mem_cons_of_mem _ m)
def isLayers (v : P) : Prop := ∃ xs, v = .lst xs ∧ xs.length ≤ 12 ∧ (∀ x ∈ xs, isBed x = true) ∧ lieWell xs = true ∧ ∀ x ∈ xs, thick x ≤ 10 ^ 30
theorem layers_turn {R : Store} {k : Nat} {c : Cell} {xs ps : List P} {most : D} {u0 u1 u2 u3 : Option D} (hp : 0 < ps.length) (hp2 : ps.length ≤ 26) (hn : ∀ x ∈ ps, isName x = true) (hF : Fd (k + 6) c) (hx : ∀ x ∈ xs, isBed x = true) (hw : lieWell xs = true) (ht : ∀ x ∈ xs, thick x ≤ 10 ^ 30) (hl : xs.length < 1000) :
    ∃ c' xs' r', f__law_layers_1 [some (.cell 0), some (.p (.lst ps)), some most, some (.cell (R.length + 1)), u0, u1, u2, u3] (c :: (R ++ [.lst xs])) = .nx r' (c' :: (R ++ [.lst xs'])) ∧ Fd k c' ∧ (∀ x ∈ xs', isBed x = true) ∧ lieWell xs' = true ∧ (∀ x ∈ xs', thick x ≤ 10 ^ 30) ∧ xs'.length ≤ xs.length + 1 ∧ ∃ w0 w1 w2 w3, r' = [some (.cell 0), some (.p (.lst ps)), some most, some (.cell (R.length + 1)), w0, w1, w2, w3] := by
  unfold f__law_layers_1
  obtain ⟨rk, c1, e1, F1, h1⟩ := pick_ok (xs := ps) hp (by omega) (k + 5) c (R ++ [.lst xs]) hF
  obtain ⟨s0, c2, e2, F2, h2⟩ := pick_ok (xs := ps) hp (by omega) (k + 4) c1 (R ++ [.lst xs]) F1
  obtain ⟨sg, c3, e3, F3, h3⟩ := pick_ok (xs := [.non, .non, s0]) (by simp) (by simp) (k + 3) c2 (R ++ [.lst xs]) F2
  obtain ⟨_, c4, e4, F4, a, rfl, a0, a1⟩ := draw_ok (many := 9) (by decide) (by decide) (k + 2) c3 (R ++ [.lst xs]) F3
  obtain ⟨_, c5, e5, F5, b, rfl, b0, b1'⟩ := draw_ok (many := 1000000) (by decide) (by decide) (k + 1) c4 (R ++ [.lst xs]) F4
  obtain ⟨th, c6, e6, F6, h6⟩ := pick_ok (xs := [.int 1, .int 2, .int (1 + a), .int (10000000000000000000000000000 + b)]) (by simp) (by simp) k c5 (R ++ [.lst xs]) F5
  obtain ⟨t, rfl, t0, t1⟩ : ∃ t : Int, th = .int t ∧ 0 < t ∧ t ≤ 10 ^ 30 := by
    simp only [List.mem_cons, List.not_mem_nil, or_false] at h6
    rcases h6 with rfl | rfl | rfl | rfl <;> exact ⟨_, rfl, by omega, by omega⟩
  have hsg : sg = .non ∨ isName sg = true := by
    simp only [List.mem_cons, List.not_mem_nil, or_false] at h3
    rcases h3 with rfl | rfl | rfl
    · exact .inl rfl
    · exact .inl rfl
    · exact .inr (hn _ h2)
  have hrk := hn _ h1
  have hbed : isBed (.tup [rk, .int t, sg]) = true := by
    simp only [isBed, hrk, isInt, isPos, decide_eq_true t0, Bool.true_and]
    rcases hsg with rfl | h
    · rfl
    · rw [h, Bool.or_true]
  obtain ⟨rs, rfl⟩ : ∃ z, rk = .str z := by
    cases rk <;> simp [isName] at hrk
    exact ⟨_, rfl⟩
  wide_line with [e1, e2, e3, e4, e5, e6]
  have ga : (c6 :: (R ++ [.lst xs]))[R.length + 1]? = some (.lst xs) := by rw [List.getElem?_cons_succ, get_app]
  have h63 : fines 63 xs = true := beds_fines hx
  have hl2 : xs.length < 16777216 := by omega
  rw [eq_cell ga, eq_nil h63]
  rcases List.eq_nil_or_concat xs with rfl | ⟨ys, b, rfl⟩
  · wide_line with [List.isEmpty_nil]
    exact ⟨c6, _, _, rfl, F6, by simpa using hbed, rfl, by simpa [thick] using t1, by simp, _, _, _, _, rfl⟩
  · rw [List.concat_eq_append] at *
    obtain ⟨x, u, m, rfl, x1, x2, x3⟩ := bed_cases (hx b (by simp))
    have emp : (ys ++ [P.tup [.str x, .int u, m]]).isEmpty = false := by simp
    have hsm : ∀ e : sameBed (.tup [.str x, .int u, m]) (.tup [.str rs, .int t, sg]) = false, ∃ c' xs' r', F.R.nx [some (D.cell 0), some (.p (.lst ps)), some most, some (.cell (R.length + 1)), u0, some (.p (.int t)), some (.p (.str rs)), some (.p sg)] (c6 :: (R ++ [.lst (ys ++ [P.tup [.str x, .int u, m]] ++ [.tup [.str rs, .int t, sg]])])) = .nx r' (c' :: (R ++ [.lst xs'])) ∧ Fd k c' ∧ (∀ x ∈ xs', isBed x = true) ∧ lieWell xs' = true ∧ (∀ x ∈ xs', thick x ≤ 10 ^ 30) ∧ xs'.length ≤ (ys ++ [P.tup [.str x, .int u, m]]).length + 1 ∧ ∃ w0 w1 w2 w3, r' = [some (.cell 0), some (.p (.lst ps)), some most, some (.cell (R.length + 1)), w0, w1, w2, w3] := fun e =>
      ⟨c6, _, _, rfl, F6, fun y my => by
        rcases List.mem_append.mp my with my | my
        · exact hx y my
        · simp only [List.mem_cons, List.not_mem_nil, or_false] at my
          rw [my]; exact hbed, lieWell_snoc hw e, fun y my => by
        rcases List.mem_append.mp my with my | my
        · exact ht y my
        · simp only [List.mem_cons, List.not_mem_nil, or_false] at my
          rw [my]; exact t1, by simp, _, _, _, _, rfl⟩
    have keep : ∃ c' xs' r', F.R.nx [some (D.cell 0), some (.p (.lst ps)), some most, some (.cell (R.length + 1)), u0, some (.p (.int t)), some (.p (.str rs)), some (.p sg)] (c6 :: (R ++ [.lst (ys ++ [P.tup [.str x, .int u, m]])])) = .nx r' (c' :: (R ++ [.lst xs'])) ∧ Fd k c' ∧ (∀ x ∈ xs', isBed x = true) ∧ lieWell xs' = true ∧ (∀ x ∈ xs', thick x ≤ 10 ^ 30) ∧ xs'.length ≤ (ys ++ [P.tup [.str x, .int u, m]]).length + 1 ∧ ∃ w0 w1 w2 w3, r' = [some (.cell 0), some (.p (.lst ps)), some most, some (.cell (R.length + 1)), w0, w1, w2, w3] :=
      ⟨c6, _, _, rfl, F6, hx, hw, ht, by omega, _, _, _, _, rfl⟩
    wide_line with [emp, atI_last, eq_P (name_fine 64 x1) (name_fine 64 hrk), peq]
    by_cases q : x = rs
    · subst q
      rcases x3 with rfl | ⟨y, rfl, _⟩
      · wide_line
        exact keep
      · wide_line with [hl2]
        exact hsm (by simp [sameBed, rockOf, markOf, isNo])
    · wide_line with [q, hl2]
      exact hsm (by simp [sameBed, rockOf, markOf, q])
theorem layers_ok {ps : List P} {most : Int} (hp : 0 < ps.length) (hp2 : ps.length ≤ 26) (hn : ∀ x ∈ ps, isName x = true) (h0 : 0 ≤ most) (h1 : most ≤ 12) : Drw 73 m__law_layers [.p (.lst ps), .p (.int most)] isLayers := by
  intro k c R hF
  rw [m__law_layers_e]
  unfold f__law_layers
  obtain ⟨_, c1, e1, F1, n, rfl, n0, n1⟩ := draw_ok (many := most + 1) (by omega) (by omega) (k + 72) c (R ++ [.lst []]) hF
  have hn62 := in62_of (i := n) (by omega) (by omega)
  wide_line with [e1, hn62]
  obtain ⟨r', S', g1, c2, xs, rfl, F2, hx, hw, ht, hl, w0, w1, w2, w3, rfl⟩ := forF_inv (T := .nm 4) (f := f__law_layers_1) (fun j r S => ∃ c xs, S = c :: (R ++ [.lst xs]) ∧ Fd (k + 6 * j) c ∧ (∀ x ∈ xs, isBed x = true) ∧ lieWell xs = true ∧ (∀ x ∈ xs, thick x ≤ 10 ^ 30) ∧ xs.length + j ≤ n.toNat ∧ ∃ w0 w1 w2 w3, r = [some (.cell 0), some (.p (.lst ps)), some (.p (.int most)), some (.cell (R.length + 1)), w0, w1, w2, w3])
    (ds := rngD 0 n.toNat) (k := 0) (r := [some (.cell 0), some (.p (.lst ps)), some (.p (.int most)), some (.cell (R.length + 1)), none, none, none, none]) (S := c1 :: (R ++ [.lst []]))
    ⟨c1, [], rfl, F1.le (by rw [rng_len]; omega), (fun _ m => nomatch m), rfl, (fun _ m => nomatch m), by rw [rng_len]; simp, _, _, _, _, rfl⟩
    (fun d m j r S ⟨c, xs, e1, hc, hx, hw, ht, hl, w0, w1, w2, w3, e2⟩ => by
      subst e1; subst e2
      obtain ⟨c', xs', r', t1, t2, t3, t4, t5, t6, t7⟩ := layers_turn (R := R) (k := k + 6 * j) (xs := xs) (most := .p (.int most)) (u0 := some d) (u1 := w1) (u2 := w2) (u3 := w3) hp hp2 hn (hc.le (by omega)) hx hw ht (by omega)
      exact ⟨_, r', _, rfl, t1, c', xs', rfl, t2, t3, t4, t5, by omega, t7⟩)
  wide_line with [g1]
  exact ⟨_, _, rfl, F2.le (by omega), xs, rfl, by omega, hx, hw, ht⟩
def ascS (z : Str) : Prop := ∀ c ∈ z.cps.toList, c < 128
theorem ascS_app {a b : Str} (ha : ascS a) (hb : ascS b) : ascS (a ++ b) := fun c m => by
  rw [app_l, List.mem_append] at m
  exact m.elim (ha c) (hb c)
theorem ascS_join {a : Str} (ha : ascS a) : ∀ {ys : List Str}, (∀ y ∈ ys, ascS y) → ascS (Str.join a ys)
  | [], _ => fun c m => by cases m
  | [x], h => h x (List.mem_cons_self ..)
  | x :: y :: r, h => ascS_app (ascS_app (h x (List.mem_cons_self ..)) ha) (ascS_join ha fun z m => h z (List.mem_cons_of_mem _ m))
theorem ascS_fine {z : Str} {n : Nat} (h : ascS z) : fine n (.str z) = true := by
  have e : fine n (.str z) = PyData.strOk z := by cases n <;> rfl
  rw [e]
  exact strOk_of fun c m => Nat.lt_trans (h c m) (by decide)
theorem ascS_int (i : Int) : ascS (Str.ofString (toString i)) := fun c m => by
  by_cases h : c ≠ 45 ∧ (c < 48 ∨ 57 < c)
  · exact absurd m (int_text_free' c h i)
  · omega
def rp (d n : Nat) (v : P) : Prop := ∃ e, px v = some e ∧ e.showable = true ∧ e.depth ≤ d ∧ e.shown.length ≤ n ∧ ascS e.shown
def rpB (d n : Nat) (v : P) : Bool := match px v with
  | some e => e.showable && (decide (e.depth ≤ d) && (decide (e.shown.length ≤ n) && e.shown.cps.toList.all fun c => decide (c < 128)))
  | none => false
theorem rpB_ok {d n : Nat} {v : P} (h : rpB d n v = true) : rp d n v := by
  unfold rpB at h
  split at h
  · rename_i e he
    simp only [Bool.and_eq_true, decide_eq_true_eq, List.all_eq_true] at h
    exact ⟨e, he, h.1, h.2.1, h.2.2.1, h.2.2.2⟩
  · cases h
theorem rp.le {d n d' n' : Nat} {v : P} (h : rp d n v) (h1 : d ≤ d') (h2 : n ≤ n') : rp d' n' v := let ⟨e, a, b, c, f, g⟩ := h; ⟨e, a, b, by omega, by omega, g⟩
theorem rp_int {i : Int} (h : i.natAbs < 10 ^ 60) : rp 0 61 (.int i) := by
  refine ⟨.int i, rfl, ?_, by simp [PyData.depth], ?_, ascS_int i⟩
  · simp only [PyData.showable, decide_eq_true_eq]
    by_cases h0 : i.natAbs = 0
    · rw [h0]; decide
    · exact (Nat.log2_lt h0).mpr (Nat.lt_trans h (by decide +kernel))
  · show (Str.ofString (toString i)).length ≤ 61
    rw [PySem.Str.ofString_eq_toList]
    have := int_text_length_le10 (a := i) (k := 60) (by decide) h
    show (((toString i).toList.map Char.toNat).toArray).size ≤ 61
    rw [List.size_toArray, List.length_map, String.length_toList]
    exact this
theorem rps_of {d n : Nat} : ∀ {xs : List P}, (∀ x ∈ xs, rp d n x) → ∃ es, pxs xs = some es ∧ PyData.showableAll es = true ∧ PyData.depthAll es ≤ d ∧ es.length = xs.length ∧ (∀ t ∈ PyData.shownAll es, t.length ≤ n) ∧ ∀ t ∈ PyData.shownAll es, ascS t
  | [], _ => ⟨[], rfl, rfl, by simp [PyData.depthAll], rfl, fun t m => by simp [PyData.shownAll] at m, fun t m => by simp [PyData.shownAll] at m⟩
  | x :: xs, h => by
    obtain ⟨e, a, b, c, f, g⟩ := h x (List.mem_cons_self ..)
    obtain ⟨es, a', b', c', l', f', g'⟩ := rps_of fun y m => h y (List.mem_cons_of_mem _ m)
    refine ⟨e :: es, by simp [pxs, a, a'], by simp [PyData.showableAll, b, b'], by simp [PyData.depthAll]; omega, by simp [l'], fun t m => ?_, fun t m => ?_⟩
    · simp only [PyData.shownAll, List.mem_cons] at m
      rcases m with rfl | m
      · exact f
      · exact f' t m
    · simp only [PyData.shownAll, List.mem_cons] at m
      rcases m with rfl | m
      · exact g
      · exact g' t m
theorem sum_le {n : Nat} : ∀ {ts : List Str}, (∀ t ∈ ts, t.length ≤ n) → (ts.map (·.length)).sum ≤ ts.length * n
  | [], _ => by simp
  | t :: ts, h => by
    have h1 := h t (List.mem_cons_self ..)
    have h2 := sum_le fun y m => h y (List.mem_cons_of_mem t m)
    simp only [List.map_cons, List.sum_cons, List.length_cons, Nat.succ_mul]
    omega
theorem join_le {n : Nat} {ts : List Str} (h : ∀ t ∈ ts, t.length ≤ n) : (Str.join ", " ts).length ≤ ts.length * (n + 2) := by
  have h1 := StrLaws.join_length_le ", " ts
  have h2 := sum_le h
  have h3 : (", " : Str).length = 2 := by decide +kernel
  rw [h3] at h1
  rw [Nat.mul_add]
  omega
theorem shown_len {es : List PyData} : (PyData.shownAll es).length = es.length := by
  induction es with
  | nil => rfl
  | cons e es ih => simp [PyData.shownAll, ih]
theorem rp_lst {d n m : Nat} {xs : List P} (h : ∀ x ∈ xs, rp d n x) (hm : xs.length * (n + 2) + 2 ≤ m) : rp (d + 1) m (.lst xs) := by
  obtain ⟨es, a, b, c, l, f, g⟩ := rps_of h
  have cm : ascS (", " : Str) := by unfold ascS; decide +kernel
  refine ⟨.list es, by simp [px, a], by simpa [PyData.showable] using b, by simp [PyData.depth]; omega, ?_, by
    show ascS (listText (PyData.shownAll es))
    rw [listText_eq_join]
    exact ascS_app (ascS_app (by unfold ascS; decide +kernel) (ascS_join cm g)) (by unfold ascS; decide +kernel)⟩
  have h1 := join_le f
  rw [shown_len, l] at h1
  have e1 : ("[" : Str).length = 1 := by decide +kernel
  have e2 : ("]" : Str).length = 1 := by decide +kernel
  show (listText (PyData.shownAll es)).length ≤ m
  rw [listText_eq_join, len_app, len_app, e1, e2]
  omega
theorem rp_tup {d n m : Nat} {xs : List P} (h : ∀ x ∈ xs, rp d n x) (hm : xs.length * (n + 2) + 3 ≤ m) : rp (d + 1) m (.tup xs) := by
  obtain ⟨es, a, b, c, l, f, g⟩ := rps_of h
  have cm : ascS (", " : Str) := by unfold ascS; decide +kernel
  refine ⟨.tuple es, by simp [px, a], by simpa [PyData.showable] using b, by simp [PyData.depth]; omega, ?_, by
    show ascS (("(" : Str) ++ Str.join ", " (PyData.shownAll es) ++ Str.ofString (if ((PyData.shownAll es).length == 1) = true then ",)" else ")"))
    refine ascS_app (ascS_app (by unfold ascS; decide +kernel) (ascS_join cm g)) ?_
    cases ((PyData.shownAll es).length == 1) <;> (unfold ascS; decide +kernel)⟩
  have h1 := join_le f
  rw [shown_len, l] at h1
  have e1 : ("(" : Str).length = 1 := by decide +kernel
  have e2 : ∀ q : Bool, (Str.ofString (if q = true then ",)" else ")")).length ≤ 2 := by
    intro q
    cases q <;> decide +kernel
  show (("(" : Str) ++ Str.join ", " (PyData.shownAll es) ++ Str.ofString (if ((PyData.shownAll es).length == 1) = true then ",)" else ")")).length ≤ m
  rw [len_app, len_app, e1]
  have := e2 ((PyData.shownAll es).length == 1)
  omega
theorem rp_dict1 {d n : Nat} {v : P} (h : rp d n v) : rp (d + 1) (n + 10) (.dK [.inr (Str.ofString "a")] [v]) := by
  obtain ⟨e, a, b, c, f, g⟩ := h
  refine ⟨.dict [(.str (Str.ofString "a"), e)], by simp [px, pxs, a, keyD], by simp [PyData.showable, PyData.showableKv, b], by simp [PyData.depth, PyData.depthKv]; omega, ?_, by
    show ascS (("{" : Str) ++ (reprText (Str.ofString "a") ++ ": " ++ e.shown) ++ "}")
    exact ascS_app (ascS_app (by unfold ascS; decide +kernel) (ascS_app (ascS_app (by unfold ascS; decide +kernel) (by unfold ascS; decide +kernel)) g)) (by unfold ascS; decide +kernel)⟩
  show (("{" : Str) ++ (reprText (Str.ofString "a") ++ ": " ++ e.shown) ++ "}").length ≤ n + 10
  have e1 : ("{" : Str).length = 1 := by decide +kernel
  have e2 : ("}" : Str).length = 1 := by decide +kernel
  have e3 : (": " : Str).length = 2 := by decide +kernel
  have e4 : (reprText (Str.ofString "a")).length = 3 := by decide +kernel
  rw [len_app, len_app, len_app, len_app, e1, e2, e3, e4]
  omega
mutual
def tameB : P → Bool
  | .ty _ => false
  | .scr _ => false
  | .obj _ _ _ => false
  | .dT _ _ => false
  | .cel _ => false
  | .fK _ _ => false
  | .str z => decide (z.length ≤ 1000) && z.cps.toList.all fun c => decide (c < 128)
  | .tup xs => decide (xs.length ≤ 1000) && tamesB xs
  | .lst xs => decide (xs.length ≤ 1000) && tamesB xs
  | _ => true
def tamesB : List P → Bool
  | [] => true
  | x :: xs => tameB x && tamesB xs
end
mutual
theorem tameB_ok : ∀ {v : P}, tameB v = true → tame v
  | .ty _, h => by simp [tameB] at h
  | .scr _, h => by simp [tameB] at h
  | .obj _ _ _, h => by simp [tameB] at h
  | .dT _ _, h => by simp [tameB] at h
  | .cel _, h => by simp [tameB] at h
  | .fK _ _, h => by simp [tameB] at h
  | .str z, h => by
    simp only [tameB, Bool.and_eq_true, decide_eq_true_eq, List.all_eq_true] at h
    simpa only [tame] using h
  | .tup xs, h => by
    simp only [tameB, Bool.and_eq_true, decide_eq_true_eq] at h
    simpa only [tame] using ⟨h.1, tamesB_ok h.2⟩
  | .lst xs, h => by
    simp only [tameB, Bool.and_eq_true, decide_eq_true_eq] at h
    simpa only [tame] using ⟨h.1, tamesB_ok h.2⟩
  | .non, _ => by simp only [tame]
  | .bl _, _ => by simp only [tame]
  | .int _, _ => by simp only [tame]
  | .dK _ _, _ => by simp only [tame]
theorem tamesB_ok : ∀ {v : List P}, tamesB v = true → tames v
  | [], _ => by simp only [tames]
  | x :: xs, h => by
    simp only [tamesB, Bool.and_eq_true] at h
    simpa only [tames] using ⟨tameB_ok h.1, tamesB_ok h.2⟩
end
def isAny (d n : Nat) (v : P) : Prop := tame v ∧ rp d n v
abbrev any0 : List P := [.non, .bl true, .bl false, .int 0, .int 1, .int (-1), .int 12, .int 100000000000000000000000000000, .str (Str.ofString ""), .str (Str.ofString "a"), .str (Str.ofString "abcdefgh"), .str (Str.ofString "abcdefghi"), .str (Str.ofString "A"), .str (Str.ofString "a b"), .str (Str.ofString "a1"), .str (Str.ofString "0"), .str (Str.ofString "zz"),
  .str (Str.ofString "~"), .str (Str.ofString "#"), .str (Str.ofString "a\n"), .tup [], .lst [], .dK [] [], .tup [.str (Str.ofString "a"), .int 1, .non], .lst [.tup [.str (Str.ofString "a"), .int 1, .non]], .tup [.str (Str.ofString "lay"), .str (Str.ofString "a")], .dK [.inr (Str.ofString "a")] [.int 1]]
theorem any0_ok : ∀ v ∈ any0, isAny 2 200 v := by
  have h : (any0.all fun v => tameB v && rpB 2 200 v) = true := by decide +kernel
  intro v m
  have := List.all_eq_true.mp h v m
  simp only [Bool.and_eq_true] at this
  exact ⟨tameB_ok this.1, rpB_ok this.2⟩
def anyC : Nat → Nat
  | 0 => 2
  | d + 1 => 3 * anyC d + 2
theorem any_gen (A : Nat → P → Prop) (base : ∀ d, ∀ v ∈ any0, A d v) (step : ∀ d (xs : List P), xs.length ≤ 3 → (∀ x ∈ xs, A d x) → A (d + 1) (.lst xs) ∧ A (d + 1) (.tup xs) ∧ A (d + 1) (.dK [.inr (Str.ofString "a")] [.tup xs])) : ∀ (d n : Nat), d < n → Drw (anyC d) (m__law_any n) [.p (.int d)] (A d)
  | d, 0, h => by omega
  | 0, n + 1, _ => by
    intro k c R hF
    rw [m__law_any_e]
    unfold f__law_any
    obtain ⟨v, c1, e1, F1, hm⟩ := pick_ok (xs := any0) (by decide) (by decide) k c R (hF.le (by simp only [anyC]; omega))
    have z0 : ((0 : Nat) : Int) = 0 := rfl
    wide_line with [nodupB, List.any_cons, List.any_nil, Sum.inr.injEq, z0, e1]
    exact ⟨_, _, rfl, F1, base 0 v hm⟩
  | d + 1, n + 1, h => by
    intro k c R hF
    have hd := any_gen A base step d n (by omega)
    have hF : Fd (k + (3 * anyC d + 2)) c := hF
    rw [m__law_any_e]
    unfold f__law_any
    have h0 : (0 : Int) < ((d + 1 : Nat) : Int) := by omega
    obtain ⟨_, c1, e1, F1, m, rfl, m0, m1⟩ := draw_ok (many := 4) (by decide) (by decide) (k + (3 * anyC d + 1)) c R hF
    have h62 := in62_of (i := m) (by omega) (by omega)
    wide_line with [nodupB, List.any_cons, List.any_nil, Sum.inr.injEq, h0, e1, h62]
    obtain ⟨xs, c2, e2, F2, l2, hx⟩ := lcF_drw (T := .nm 4) (fe := f__law_any_1 (m__law_any n)) (r0 := [some (.cell 0), some (.p (.int ((d + 1 : Nat) : Int))), some (.p (.lst any0)), none, none]) (R := R) (anyC d) (A d) (ds := rngD 0 m.toNat) (k := k + 1) (c := c1) (F1.le (by
        rw [rng_len]
        have : anyC d * m.toNat ≤ anyC d * 3 := Nat.mul_le_mul_left _ (by omega)
        omega)) (fun d' m j c hc => by
      obtain ⟨v, c', g1, g2, g3⟩ := hd j c R hc
      have e : ((d + 1 : Nat) : Int) - 1 = ((d : Nat) : Int) := by omega
      exact ⟨_, v, c', rfl, by unfold f__law_any_1; wide_line with [e, g1], g2, g3⟩) (by rw [rng_len]; omega)
    rw [rng_len] at l2
    wide_line with [e2, nodupB, List.any_cons, List.any_nil, Sum.inr.injEq]
    obtain ⟨v, c3, e3, F3, hm⟩ := pick_ok (xs := any0 ++ [.lst xs, .tup xs, .dK [.inr (Str.ofString "a")] [.tup xs]]) (by simp) (by simp) k c2 R F2
    simp only [any0, List.cons_append, List.nil_append] at e3
    wide_line with [e3]
    refine ⟨_, _, rfl, F3, ?_⟩
    have st := step d xs (by omega) hx
    rcases List.mem_append.mp hm with hm | hm
    · exact base (d + 1) v hm
    · simp only [List.mem_cons, List.not_mem_nil, or_false] at hm
      rcases hm with rfl | rfl | rfl
      · exact st.1
      · exact st.2.1
      · exact st.2.2
def anyZ : Nat → Nat
  | 0 => 200
  | d + 1 => 3 * anyZ d + 30
theorem anyZ_ge : ∀ d, 200 ≤ anyZ d
  | 0 => by decide
  | d + 1 => by have := anyZ_ge d; simp only [anyZ]; omega
theorem any_base (d : Nat) : ∀ v ∈ any0, isAny (2 + 2 * d) (anyZ d) v := fun v m => ⟨(any0_ok v m).1, (any0_ok v m).2.le (by omega) (anyZ_ge d)⟩
theorem any_st (d : Nat) (xs : List P) (lx : xs.length ≤ 3) (hx : ∀ x ∈ xs, isAny (2 + 2 * d) (anyZ d) x) : isAny (2 + 2 * (d + 1)) (anyZ (d + 1)) (.lst xs) ∧ isAny (2 + 2 * (d + 1)) (anyZ (d + 1)) (.tup xs) ∧ isAny (2 + 2 * (d + 1)) (anyZ (d + 1)) (.dK [.inr (Str.ofString "a")] [.tup xs]) := by
  have tx : tames xs := tames_of fun x m => (hx x m).1
  have lz : xs.length * (anyZ d + 2) ≤ 3 * (anyZ d + 2) := Nat.mul_le_mul_right _ lx
  have rl : rp (2 + 2 * d + 1) (3 * anyZ d + 20) (.lst xs) := rp_lst (fun x m => (hx x m).2) (by omega)
  have rt : rp (2 + 2 * d + 1) (3 * anyZ d + 20) (.tup xs) := rp_tup (fun x m => (hx x m).2) (by omega)
  simp only [anyZ]
  exact ⟨⟨by simpa only [tame] using ⟨by omega, tx⟩, rl.le (by omega) (by omega)⟩, ⟨by simpa only [tame] using ⟨by omega, tx⟩, rt.le (by omega) (by omega)⟩, ⟨by simp only [tame], (rp_dict1 rt).le (by omega) (by omega)⟩⟩
def tx (v : P) : Str := match px v with
  | some e => e.shown
  | none => Str.ofString ""
theorem repr_tx {d n : Nat} {v : P} (h : rp d n v) (hd : d ≤ 60) (hn : n ≤ 16777216) (S : Store) : dRepr (.p v) S = .ok (.p (.str (tx v))) S := by
  obtain ⟨e, h1, h2, h3, h4, _⟩ := h
  unfold dRepr tx
  have : pxD S (.p v) = px v := rfl
  rw [this, h1]
  have a1 : decide (e.depth ≤ 60) = true := decide_eq_true (by omega)
  have a2 : decide (e.shown.length ≤ sizeLine) = true := decide_eq_true (by rw [sz]; omega)
  simp only [h2, a1, a2, Bool.and_self, chk_true]
theorem tx_asc {d n : Nat} {v : P} (h : rp d n v) : ascS (tx v) := by
  obtain ⟨e, h1, _, _, _, h5⟩ := h
  unfold tx
  rw [h1]
  exact h5
mutual
theorem peq_refl : ∀ {n : Nat} {v : P}, fine n v = true → peq v v = true
  | _, .non, _ => by simp [peq]
  | _, .bl _, _ => by simp [peq]
  | _, .int _, _ => by simp [peq]
  | _, .str _, _ => by simp [peq]
  | n + 1, .lst xs, h => by simp only [fine] at h; simp only [peq]; exact peqs_refl h
  | n + 1, .tup xs, h => by simp only [fine] at h; simp only [peq]; exact peqs_refl h
  | 0, .lst _, h => by simp [fine] at h
  | 0, .tup _, h => by simp [fine] at h
  | _, .ty _, h => by simp [fine] at h
  | _, .scr _, h => by simp [fine] at h
  | _, .dK _ _, h => by simp [fine] at h
  | _, .dT _ _, h => by simp [fine] at h
  | _, .obj _ _ _, h => by simp [fine] at h
  | _, .cel _, h => by simp [fine] at h
  | _, .fK _ _, h => by simp [fine] at h
theorem peqs_refl : ∀ {n : Nat} {v : List P}, fines n v = true → peqs v v = true
  | _, [], _ => by simp [peqs]
  | n, x :: xs, h => by
    simp only [fines, Bool.and_eq_true] at h
    simp only [peqs, peq_refl h.1, peqs_refl h.2, Bool.and_self]
end
theorem ne_same {v : P} {S : Store} (h : fine 64 v = true) : dEqv true (.p v) (.p v) S = .ok (.p (.bl false)) S := by
  rw [eq_P h h, peq_refl h]
  rfl
def isNoName (v : P) : Prop := v = .non ∨ isName v = true
def isCol (v : P) : Prop := ∃ r f m b, v = .tup [r, f, m, b] ∧ isNoName r ∧ isLvl f ∧ isNoName m ∧ isLayers b
theorem column_ok {ps : List P} {most : Int} (hp : 0 < ps.length) (hp2 : ps.length ≤ 26) (hn : ∀ x ∈ ps, isName x = true) (h0 : 0 ≤ most) (h1 : most ≤ 12) : Drw 81 m__law_column [.p (.lst ps), .p (.int most)] isCol := by
  intro k c R hF
  rw [m__law_column_e]
  unfold f__law_column
  obtain ⟨a, c1, e1, F1, ha⟩ := pick_ok (xs := ps) hp (by omega) (k + 80) c R hF
  obtain ⟨b, c2, e2, F2, hb⟩ := pick_ok (xs := [.non, .non, a]) (by simp) (by simp) (k + 79) c1 R F1
  obtain ⟨d, c3, e3, F3, hd⟩ := pick_ok (xs := ps) hp (by omega) (k + 78) c2 R F2
  obtain ⟨e, c4, e4, F4, he⟩ := pick_ok (xs := [.non, d]) (by simp) (by simp) (k + 77) c3 R F3
  obtain ⟨f, c5, e5, F5, hf⟩ := level_ok (k + 73) c4 R F4
  obtain ⟨g, c6, e6, F6, hg⟩ := layers_ok hp hp2 hn h0 h1 k c5 R F5
  wide_line with [e1, e2, e3, e4, e5, e6]
  refine ⟨_, _, rfl, F6, b, f, e, g, rfl, ?_, hf, ?_, hg⟩
  · simp only [List.mem_cons, List.not_mem_nil, or_false] at hb
    rcases hb with rfl | rfl | rfl
    · exact .inl rfl
    · exact .inl rfl
    · exact .inr (hn _ ha)
  · simp only [List.mem_cons, List.not_mem_nil, or_false] at he
    rcases he with rfl | rfl
    · exact .inl rfl
    · exact .inr (hn _ hd)
structure Bed where
  x : Str
  t : Int
  m : Option Str
structure Col where
  foot : Int
  beds : List Bed
  root : Option Str
  mark : Option Str
def mk : Option Str → P
  | none => .non
  | some y => .str y
def enc (b : Bed) : P := .tup [.str b.x, .int b.t, mk b.m]
def encB (bs : List Bed) : List P := bs.map enc
def encC (c : Col) : P := colP c.foot (encB c.beds) (mk c.root) (mk c.mark)
def nameO (o : Option Str) : Prop := ∀ y, o = some y → isName (.str y) = true
structure BedOk (b : Bed) : Prop where
  x : isName (.str b.x) = true
  t : 0 < b.t
  m : nameO b.m
def lieT : List Bed → Prop
  | a :: b :: r => ¬ (a.x = b.x ∧ a.m = none) ∧ lieT (b :: r)
  | _ => True
structure ColOk (c : Col) : Prop where
  beds : ∀ b ∈ c.beds, BedOk b
  lie : lieT c.beds
  root : nameO c.root
  mark : nameO c.mark
theorem mk_tame {o : Option Str} (h : nameO o) : tame (mk o) := by
  cases o with
  | none => simp only [mk, tame]
  | some y =>
    have := name_chars (h y rfl)
    simpa only [mk, tame] using ⟨by omega, this.2.2⟩
theorem isBed_enc {b : Bed} (h : BedOk b) : isBed (enc b) = true := by
  unfold enc isBed
  simp only [h.x, isInt, isPos, decide_eq_true h.t, Bool.true_and]
  cases e : b.m with
  | none => rfl
  | some y => simp only [mk, isNo, h.m y e, Bool.or_true]
theorem tame_enc {b : Bed} (h : BedOk b) : tame (enc b) := by
  have := name_chars h.x
  simp only [enc, tame, tames]
  exact ⟨by simp, ⟨by omega, this.2.2⟩, trivial, mk_tame h.m, trivial⟩
theorem thick_encB (bs : List Bed) : (encB bs).map thick = bs.map (·.t) := by
  unfold encB
  rw [List.map_map]
  rfl
theorem lie_enc : ∀ {bs : List Bed}, lieT bs → lieWell (encB bs) = true
  | [], _ => rfl
  | [_], _ => rfl
  | a :: b :: r, h => by
    have ih := lie_enc (bs := b :: r) h.2
    show (!sameBed (enc a) (enc b) && lieWell (encB (b :: r))) = true
    rw [ih, Bool.and_true]
    have : sameBed (enc a) (enc b) = false := by
      unfold sameBed
      show (decide (a.x = b.x) && isNo (mk a.m)) = false
      by_cases e : a.x = b.x
      · cases em : a.m with
        | none => exact absurd ⟨e, em⟩ h.1
        | some y => simp [mk, isNo]
      · simp [e]
    rw [this]
    rfl
theorem mem_encB {bs : List Bed} {v : P} (m : v ∈ encB bs) : ∃ b ∈ bs, v = enc b := by
  obtain ⟨b, h1, h2⟩ := List.mem_map.mp m
  exact ⟨b, h1, h2.symm⟩
theorem tames_encB {bs : List Bed} (h : ∀ b ∈ bs, BedOk b) : tames (encB bs) := tames_of fun v m => by
  obtain ⟨b, h1, rfl⟩ := mem_encB m
  exact tame_enc (h b h1)
theorem areBeds_encB {bs : List Bed} (h : ∀ b ∈ bs, BedOk b) (hl : lieT bs) : areBeds (.tup (encB bs)) = true ∧ areBeds (.lst (encB bs)) = true := by
  have h1 : (encB bs).all isBed = true := List.all_eq_true.mpr fun v m => by
    obtain ⟨b, hb, rfl⟩ := mem_encB m
    exact isBed_enc (h b hb)
  constructor <;> simp only [areBeds, itemsP, h1, lie_enc hl, Bool.and_self]
theorem encB_len (bs : List Bed) : (encB bs).length = bs.length := List.length_map ..
theorem mk_err {o : Option Str} (h : nameO o) : ¬ (isNo (mk o) = false ∧ isName (mk o) = false) := by
  cases o with
  | none => simp [mk, isNo]
  | some y => simp [mk, h y rfl]
theorem col_make {c : Col} (ok : ColOk c) (hl : c.beds.length ≤ 1000) {bv : P} (hb : bv = .tup (encB c.beds) ∨ bv = .lst (encB c.beds)) (S : Store) :
    mkF (m_Column___init__ [.cell S.length, .p (.int c.foot), .p bv, .p (mk c.root), .p (mk c.mark)] (S ++ [.obj "Column" [] []])) S.length = .ok (.p (encC c)) S := by
  have tb : tame bv := by
    rcases hb with rfl | rfl <;> simpa only [tame] using ⟨by rw [encB_len]; exact hl, tames_encB ok.beds⟩
  have ab : areBeds bv = true := by
    rcases hb with rfl | rfl
    · exact (areBeds_encB ok.beds ok.lie).1
    · exact (areBeds_encB ok.beds ok.lie).2
  have ib : (itemsP bv).getD [] = encB c.beds := by
    rcases hb with rfl | rfl <;> rfl
  have key := col_init (foot := .int c.foot) (beds := bv) (root := mk c.root) (mark := mk c.mark) (by simp only [tame]) tb (mk_tame ok.root) (mk_tame ok.mark) S
  have ce : colErr (.int c.foot) bv (mk c.root) (mk c.mark) = none := by
    unfold colErr
    rw [if_neg (by simp [isInt]), if_neg (by simp [ab]), if_neg (mk_err ok.root), if_neg (mk_err ok.mark)]
  rw [ce] at key
  rw [key, ib]
  wide_line with [colC, intOf]
  rfl
def Col.top (c : Col) : Int := c.foot + (c.beds.map (·.t)).sum
theorem encC_top (c : Col) : encC c = .obj "Column" colNames [.int c.foot, .tup (encB c.beds), mk c.root, mk c.mark, .int c.top] := by
  unfold encC colP Col.top
  rw [thick_encB]
section
variable {c : Col} {S : Store}
theorem at_foot : dAttr cs_foot (Str.ofString "foot") (.p (encC c)) S = .ok (.p (.int c.foot)) S := by
  rw [encC_top]
  wide_line using [colNames]
theorem at_beds : dAttr cs_beds (Str.ofString "beds") (.p (encC c)) S = .ok (.p (.tup (encB c.beds))) S := by
  rw [encC_top]
  wide_line using [colNames]
theorem at_root : dAttr cs_root (Str.ofString "root") (.p (encC c)) S = .ok (.p (mk c.root)) S := by
  rw [encC_top]
  wide_line using [colNames]
theorem at_mark : dAttr cs_mark (Str.ofString "mark") (.p (encC c)) S = .ok (.p (mk c.mark)) S := by
  rw [encC_top]
  wide_line using [colNames]
theorem at_top : dAttr cs_top (Str.ofString "top") (.p (encC c)) S = .ok (.p (.int c.top)) S := by
  rw [encC_top]
  wide_line using [colNames]
end
theorem obj_col {c : Col} {S : Store} : objOf S (.p (encC c)) = some ("Column", colNames, [.int c.foot, .tup (encB c.beds), mk c.root, mk c.mark, .int c.top]) := by
  rw [encC_top]
  rfl
theorem fines_encB {n : Nat} {bs : List Bed} (h : ∀ b ∈ bs, BedOk b) : fines (n + 2) (encB bs) = true := by
  induction bs with
  | nil => rfl
  | cons b bs ih =>
    have h1 := h b (List.mem_cons_self ..)
    have f1 : fine (n + 2) (enc b) = true := by
      show (fine (n + 1) (.str b.x) && (fine (n + 1) (.int b.t) && (fine (n + 1) (mk b.m) && fines (n + 1) []))) = true
      rw [name_fine _ h1.x]
      cases e : b.m with
      | none => rfl
      | some y => simp only [mk, name_fine _ (h1.m y e)]; rfl
    show (fine (n + 2) (enc b) && fines (n + 2) (encB bs)) = true
    rw [f1, ih fun c m => h c (List.mem_cons_of_mem _ m)]
    rfl
def belowB : List Bed → Int → List Bed
  | [], _ => []
  | b :: r, h => if h < b.t then (if 0 < h then [⟨b.x, h, none⟩] else []) else b :: belowB r (h - b.t)
def markLast (bs : List Bed) (name : Str) : List Bed := match bs.getLast? with
  | some b => bs.dropLast ++ [⟨b.x, b.t, some name⟩]
  | none => []
def Col.cut (c : Col) (name : Str) (lv : Int) : Col :=
  if c.top < lv then c else if lv ≤ c.foot then ⟨lv, [], c.root, some name⟩ else { c with beds := markLast (belowB c.beds (lv - c.foot)) name }
theorem nameO_some {z : Str} (h : isName (.str z) = true) : nameO (some z) := fun y e => by cases e; exact h
theorem noBeds : ∀ b ∈ ([] : List Bed), BedOk b := fun _ m => nomatch m
theorem nameO_none : nameO none := fun _ e => nomatch e
def encL (c : Col) : P := .tup [mk c.root, .int c.foot, mk c.mark, .lst (encB c.beds)]
theorem bed_of {v : P} (h : isBed v = true) : ∃ b, v = enc b ∧ BedOk b := by
  obtain ⟨x, t, m, rfl, h1, h2, h3⟩ := bed_cases h
  rcases h3 with rfl | ⟨y, rfl, h4⟩
  · exact ⟨⟨x, t, none⟩, rfl, h1, h2, nameO_none⟩
  · exact ⟨⟨x, t, some y⟩, rfl, h1, h2, nameO_some h4⟩
theorem beds_of : ∀ {xs : List P}, (∀ x ∈ xs, isBed x = true) → ∃ bs, xs = encB bs ∧ ∀ b ∈ bs, BedOk b
  | [], _ => ⟨[], rfl, noBeds⟩
  | x :: xs, h => by
    obtain ⟨b, rfl, hb⟩ := bed_of (h x (List.mem_cons_self ..))
    obtain ⟨bs, rfl, hbs⟩ := beds_of fun y m => h y (List.mem_cons_of_mem _ m)
    exact ⟨b :: bs, rfl, fun c m => by
      rcases List.mem_cons.mp m with rfl | m
      · exact hb
      · exact hbs c m⟩
theorem lie_of : ∀ {bs : List Bed}, lieWell (encB bs) = true → lieT bs
  | [], _ => trivial
  | [_], _ => trivial
  | a :: b :: r, h => by
    have h : (!sameBed (enc a) (enc b) && lieWell (encB (b :: r))) = true := h
    simp only [Bool.and_eq_true, Bool.not_eq_true'] at h
    refine ⟨fun ⟨e1, e2⟩ => ?_, lie_of h.2⟩
    have : sameBed (enc a) (enc b) = true := by
      show (decide (a.x = b.x) && isNo (mk a.m)) = true
      rw [e1, e2]
      simp [mk, isNo]
    rw [this] at h
    cases h.1
theorem noname_of {v : P} (h : isNoName v) : ∃ o, v = mk o ∧ nameO o := by
  rcases h with rfl | h
  · exact ⟨none, rfl, nameO_none⟩
  · cases v <;> simp only [isName, Bool.false_eq_true] at h
    rename_i z
    exact ⟨some z, rfl, nameO_some (by simpa only [isName] using h)⟩
theorem col_of {v : P} (h : isCol v) : ∃ c, v = encL c ∧ ColOk c ∧ c.beds.length ≤ 12 := by
  obtain ⟨r, f, m, b, rfl, hr, ⟨i, rfl, _⟩, hm, xs, rfl, hl, hx, hw, _⟩ := h
  obtain ⟨ro, rfl, hro⟩ := noname_of hr
  obtain ⟨mo, rfl, hmo⟩ := noname_of hm
  obtain ⟨bs, rfl, hbs⟩ := beds_of hx
  exact ⟨⟨i, bs, ro, mo⟩, rfl, ⟨hbs, lie_of hw, hro, hmo⟩, by rw [encB_len] at hl; exact hl⟩
theorem fine_mk {n : Nat} {o : Option Str} (h : nameO o) : fine n (mk o) = true := by
  cases o with
  | none => cases n <;> rfl
  | some y => exact name_fine n (h y rfl)
theorem eq_same {v : P} {S : Store} (h : fine 64 v = true) : dEqv false (.p v) (.p v) S = .ok (.p (.bl true)) S := by
  rw [eq_P h h, peq_refl h]
  rfl
theorem eq_eq {c : Col} (ok : ColOk c) (S : Store) : m_Column___eq__ [.p (encC c), .p (encC c)] S = .ok (.p (.bl true)) S := by
  rw [m_Column___eq___e]
  unfold f_Column___eq__
  have f1 : fine 64 (.tup (encB c.beds)) = true := by
    show fines 63 (encB c.beds) = true
    exact fines_encB ok.beds
  have e1 := ne_same (S := S) f1
  have e2 := ne_same (v := .int c.foot) (S := S) rfl
  have e3 := eq_same (S := S) (fine_mk (n := 64) ok.root)
  have e4 := eq_same (S := S) (fine_mk (n := 64) ok.mark)
  wide_line with [obj_col, show is_Column "Column" = true from rfl, at_foot, at_beds, at_root, at_mark, e1, e2, e3, e4]
def encS (cs : List Col) : P := .obj "Section" [Str.ofString "columns"] [.tup (cs.map encC)]
theorem map_encC_p {cs : List Col} : (cs.map encC).map D.p = cs.map fun c => D.p (encC c) := by
  rw [List.map_map]
  rfl
theorem sec_make {cs : List Col} (h0 : 1 ≤ cs.length) (h1 : cs.length ≤ 12) {bv : P} (hb : bv = .tup (cs.map encC) ∨ bv = .lst (cs.map encC)) (S : Store) :
    mkF (m_Section___init__ [.cell S.length, .p bv] (S ++ [.obj "Section" [] []])) S.length = .ok (.p (encS cs)) S := by
  have lc : ∀ (r0 r1 : Option D) (S : Store), lcF (.nm 2) wYes f_Section___init___E3 [r0, r1, none] (cs.map fun c => D.p (encC c)) 0 S = .ok (cs.map fun _ => .bl true) S := fun r0 r1 S =>
    lcF_mapM (F := fun c => D.p (encC c)) (fun _ => .bl true) (fun c m => ⟨_, rfl, by unfold f_Section___init___E3; wide_line with [obj_col, show is_Column "Column" = true from rfl]⟩) (by rw [sz]; omega)
  have c1 : decide ((1 : Int) ≤ (cs.length : Int)) = true := decide_eq_true (by omega)
  have c2 : decide ((cs.length : Int) ≤ 12) = true := decide_eq_true (by omega)
  have al : (cs.map fun _ => true).all id = true := by simp
  rw [m_Section___init___e]
  unfold f_Section___init__ f_Section___init___L1 f_Section___init___L3 f_Section___init___L5
  rcases hb with rfl | rfl
  · wide_line using [List.length_map, c1, c2, map_encC_p]
    rw [lc]
    wide_line using [bls_map, al]
    rfl
  · wide_line using [List.length_map, c1, c2, map_encC_p]
    rw [lc]
    wide_line using [bls_map, al]
    rfl
theorem at_columns {cs : List Col} {S : Store} : dAttr cs_columns (Str.ofString "columns") (.p (encS cs)) S = .ok (.p (.tup (cs.map encC))) S := by
  unfold encS
  wide_line using []
mutual
theorem px_free : ∀ {v : P} {e : PyData}, px v = some e → freeP v = true
  | .non, _, _ => rfl
  | .bl _, _, _ => rfl
  | .int _, _, _ => rfl
  | .str _, _, _ => rfl
  | .lst xs, e, h => by
    simp only [px, Option.map_eq_some_iff] at h
    obtain ⟨es, a, _⟩ := h
    simpa only [freeP] using pxs_free a
  | .tup xs, e, h => by
    simp only [px, Option.map_eq_some_iff] at h
    obtain ⟨es, a, _⟩ := h
    simpa only [freeP] using pxs_free a
  | .dK ks xs, e, h => by
    simp only [px, Option.map_eq_some_iff] at h
    obtain ⟨es, a, _⟩ := h
    simpa only [freeP] using pxs_free a
  | .fK ks xs, e, h => by
    simp only [px, Option.map_eq_some_iff] at h
    obtain ⟨es, a, _⟩ := h
    simpa only [freeP] using pxs_free a
  | .scr _, _, h => by simp only [px] at h; cases h
  | .ty _, _, h => by simp only [px] at h; cases h
  | .dT _ _, _, h => by simp only [px] at h; cases h
  | .obj _ _ _, _, h => by simp only [px] at h; cases h
  | .cel _, _, h => by simp only [px] at h; cases h
theorem pxs_free : ∀ {xs : List P} {es : List PyData}, pxs xs = some es → freePs xs = true
  | [], _, _ => rfl
  | x :: xs, es, h => by
    rw [pxs] at h
    split at h
    · rename_i a b h1 h2
      simp only [freePs, px_free h1, pxs_free h2, Bool.and_self]
    · cases h
end
theorem rp_free {d n : Nat} {v : P} (h : rp d n v) : freeP v = true := let ⟨_, a, _⟩ := h; px_free a
theorem free_all {xs : List P} : freePs xs = true ↔ ∀ x ∈ xs, freeP x = true := by
  induction xs with
  | nil => exact ⟨fun _ x m => (nomatch m), fun _ => rfl⟩
  | cons y r ih =>
    simp only [freePs, Bool.and_eq_true, ih]
    refine ⟨fun ⟨h1, h2⟩ x m => ?_, fun h => ⟨h y (List.mem_cons_self ..), fun x m => h x (List.mem_cons_of_mem _ m)⟩⟩
    rcases List.mem_cons.mp m with rfl | m
    · exact h1
    · exact h2 x m
theorem free_name {v : P} (h : isName v = true) : freeP v = true := by
  cases v with
  | str x => rfl
  | _ => simp only [isName, Bool.false_eq_true] at h
theorem borrows_data {S : Store} : ∀ {ps : List P}, freePs ps = true → borrows S (ps.map D.p) = some (ps.map D.p, [])
  | [], _ => rfl
  | p :: ps, h => by
    simp only [freePs, Bool.and_eq_true] at h
    simp only [List.map_cons, borrows, borrow, h.1, if_true, borrows_data h.2, List.nil_append]
theorem lift0_data {m : FD} {ps : List P} {v : P} {S : Store} (hf : freePs ps = true) (h : m (ps.map D.p) [] = .ok (.p v) []) : lift0 m (ps.map D.p) S = .ok (.p v) S := by
  unfold lift0
  rw [borrows_data hf]
  dsimp only
  rw [h]
  unfold back0
  dsimp only
  rw [if_pos (.inl rfl)]
theorem lift_data {m : FD} {ps : List P} {v : P} {S : Store} (hf : freePs ps = true) (h : m (ps.map D.p) [] = .ok (.p v) []) : liftM m (ps.map D.p) S = .ok (.p v) S := by
  have e : liftM m (ps.map D.p) S = lift0 m (ps.map D.p) S := by cases ps <;> rfl
  rw [e, lift0_data hf h]
theorem feed_free {f : Feed} : freeC (feedC f) = true := by
  have : ∀ cs : List Int, freePs (cs.map P.int) = true := fun cs => free_all.mpr fun x m => by
    obtain ⟨i, _, rfl⟩ := List.mem_map.mp m
    rfl
  simp only [feedC, freeC, freePs, freeP, this, Bool.and_self]
theorem lift_drw {n k : Nat} {m : FD} {ps : List P} {A : P → Prop} {c : Cell} {R : Store} (h : Drw n m (ps.map D.p) A) (hf : freePs ps = true) (hF : Fd (k + n) c) : ∃ v c', liftM m (.cell 0 :: ps.map D.p) (c :: R) = .ok (.p v) (c' :: R) ∧ Fd k c' ∧ A v := by
  obtain ⟨v, c', e, F, a⟩ := h k c [] hF
  refine ⟨v, c', ?_, F, a⟩
  obtain ⟨f, rfl, _⟩ := hF
  obtain ⟨f', rfl, _⟩ := F
  have e1 : (feedC f :: R)[0]? = some (.dK fk [.lst (f.cs.map P.int), .int f.at_, .int f.left]) := rfl
  unfold liftM
  dsimp only
  rw [e1]
  dsimp only
  unfold lift1
  rw [borrows_data hf]
  dsimp only
  rw [show freeC (.dK fk [.lst (f.cs.map P.int), .int f.at_, .int f.left]) = true from feed_free (f := f), if_pos rfl]
  have e : m (.cell 0 :: ps.map D.p) [.dK fk [.lst (f.cs.map P.int), .int f.at_, .int f.left]] = .ok (.p v) [feedC f'] := e
  rw [e]
  unfold back1
  dsimp only
  rw [if_pos ⟨rfl, .inl rfl⟩]
  rfl
theorem lift0_one {m : FD} {p1 p2 : List P} {xs : List P} {v : P} {S : Store} {n : Nat} (h1 : freePs p1 = true) (h2 : freePs p2 = true) (hx : freePs xs = true) (hn : S[n]? = some (.lst xs)) (hv : bareP v = true) (h : m (p1.map D.p ++ .p (.lst xs) :: p2.map D.p) [] = .ok (.p v) []) : lift0 m (p1.map D.p ++ .cell n :: p2.map D.p) S = .ok (.p v) S := by
  have b0 : borrows S (.cell n :: p2.map D.p) = some (.p (.lst xs) :: p2.map D.p, [n]) := by
    simp only [borrows, borrow, hn, hx, if_true, borrows_data h2, List.append_nil]
  have b1' : ∀ p1 : List P, freePs p1 = true → borrows S (p1.map D.p ++ .cell n :: p2.map D.p) = some (p1.map D.p ++ .p (.lst xs) :: p2.map D.p, [n]) := by
    intro p1
    induction p1 with
    | nil => intro _; exact b0
    | cons p r ih =>
      intro h
      simp only [freePs, Bool.and_eq_true] at h
      simp only [List.map_cons, List.cons_append, borrows, borrow, h.1, if_true, ih h.2, List.nil_append]
  unfold lift0
  rw [b1' p1 h1]
  dsimp only
  rw [h]
  unfold back0
  dsimp only
  rw [if_pos (.inr hv)]
theorem free_mk (o : Option Str) : freeP (mk o) = true := by cases o <;> rfl
theorem free_enc (b : Bed) : freeP (enc b) = true := by simp only [enc, freeP, freePs, free_mk, Bool.and_self]
theorem free_encB (bs : List Bed) : freePs (encB bs) = true := free_all.mpr fun x m => by
  obtain ⟨b, _, rfl⟩ := mem_encB m
  exact free_enc b
mutual
theorem cmpB_succ : ∀ {p : P} {n : Nat}, cmpB n p = true → cmpB (n + 1) p = true
  | .non, n, _ => by cases n <;> rfl
  | .bl _, n, _ => by cases n <;> rfl
  | .int _, n, _ => by cases n <;> rfl
  | .str _, n, _ => by cases n <;> rfl
  | .tup ds, n + 1, h => by
    simp only [cmpB] at h ⊢
    exact cmpBs_succ h
  | .lst ds, n + 1, h => by
    simp only [cmpB] at h ⊢
    exact cmpBs_succ h
  | .dK ks ds, n + 1, h => by
    simp only [cmpB, Bool.and_eq_true] at h ⊢
    exact ⟨cmpBs_succ h.1, h.2⟩
  | .tup _, 0, h => by simp [cmpB] at h
  | .lst _, 0, h => by simp [cmpB] at h
  | .dK _ _, 0, h => by simp [cmpB] at h
  | .ty _, n, h => by cases n <;> simp [cmpB] at h
  | .scr _, n, h => by cases n <;> simp [cmpB] at h
  | .dT _ _, n, h => by cases n <;> simp [cmpB] at h
  | .fK _ _, n, h => by cases n <;> simp [cmpB] at h
  | .obj _ _ _, n, h => by cases n <;> simp [cmpB] at h
  | .cel _, n, h => by cases n <;> simp [cmpB] at h
theorem cmpBs_succ : ∀ {ps : List P} {n : Nat}, cmpBs n ps = true → cmpBs (n + 1) ps = true
  | [], n, _ => by cases n <;> rfl
  | p :: ps, n, h => by
    simp only [cmpBs, Bool.and_eq_true] at h ⊢
    exact ⟨cmpB_succ h.1, cmpBs_succ h.2⟩
end
theorem cmpB_le {p : P} {n m : Nat} (h : cmpB n p = true) (hl : n ≤ m) : cmpB m p = true := by
  induction hl with
  | refl => exact h
  | step _ ih => exact cmpB_succ ih
theorem cmpBs_of {n : Nat} : ∀ {ps : List P}, (∀ p ∈ ps, cmpB n p = true) → cmpBs n ps = true
  | [], _ => by cases n <;> rfl
  | p :: ps, h => by
    simp only [cmpBs, Bool.and_eq_true]
    exact ⟨h p (List.mem_cons_self ..), cmpBs_of fun q m => h q (List.mem_cons_of_mem _ m)⟩
def anyS (d : Nat) (v : P) : Prop := isAny (2 + 2 * d) (anyZ d) v ∧ cmpB (2 + 2 * d) v = true
theorem anyS_base (d : Nat) : ∀ v ∈ any0, anyS d v := fun v m => ⟨any_base d v m, by
  have h : (any0.all fun v => cmpB 2 v) = true := by decide +kernel
  exact cmpB_le (List.all_eq_true.mp h v m) (by omega)⟩
theorem anyS_st (d : Nat) (xs : List P) (lx : xs.length ≤ 3) (hx : ∀ x ∈ xs, anyS d x) : anyS (d + 1) (.lst xs) ∧ anyS (d + 1) (.tup xs) ∧ anyS (d + 1) (.dK [.inr (Str.ofString "a")] [.tup xs]) := by
  obtain ⟨h1, h2, h3⟩ := any_st d xs lx fun x m => (hx x m).1
  have c2 : cmpBs (2 + 2 * d) xs = true := cmpBs_of fun x m => (hx x m).2
  have c3 : cmpBs (2 + 2 * d + 1) xs = true := cmpBs_succ c2
  have e : 2 + 2 * (d + 1) = 2 + 2 * d + 1 + 1 := by omega
  refine ⟨⟨h1, ?_⟩, ⟨h2, ?_⟩, ⟨h3, ?_⟩⟩
  · rw [e]
    simp only [cmpB]
    exact c3
  · rw [e]
    simp only [cmpB]
    exact c3
  · rw [e]
    simp only [cmpB, cmpBs, c2, Bool.and_self, Bool.true_and]
    first | done | decide | rfl
theorem anyS_ok {d : Nat} (hd : d < 3) : Drw (anyC d) (m__law_any 3) [.p (.int d)] (anyS d) := fun k c R hF => by
  obtain ⟨v, c', e, F, a⟩ := any_gen anyS anyS_base anyS_st d 3 hd k c R hF
  exact ⟨v, c', e, F, a⟩
theorem anyS.free {d : Nat} {v : P} (h : anyS d v) : freeP v = true := rp_free h.1.2
theorem anyS.sm {d : Nat} {v : P} (h : anyS d v) (hd : d < 20) : EqSm v v := ⟨rfl, cmpB_le h.2 (by omega)⟩
theorem free_C (c : Col) : freeP (encC c) = true := by
  rw [encC_top]
  simp only [freeP, freePs, free_encB, free_mk, Bool.and_self]
theorem free_L (c : Col) : freeP (encL c) = true := by
  simp only [encL, freeP, freePs, free_encB, free_mk, Bool.and_self]
theorem bare_C (c : Col) : bareP (encC c) = true := by
  have bm : ∀ o : Option Str, bareP (mk o) = true := fun o => by cases o <;> rfl
  have be : ∀ bs : List Bed, barePs (encB bs) = true := fun bs => by
    induction bs with
    | nil => rfl
    | cons b r ih =>
      show (bareP (enc b) && barePs (encB r)) = true
      rw [ih]
      simp only [enc, bareP, barePs, bm, Bool.and_self]
  rw [encC_top]
  simp only [bareP, barePs, be, bm, Bool.and_self]
theorem names_free {ps : List P} (h : ∀ x ∈ ps, isName x = true) : freePs ps = true := free_all.mpr fun x m => free_name (h x m)
theorem cmp_mk (n : Nat) (o : Option Str) : cmpB n (mk o) = true := by cases o <;> cases n <;> rfl
theorem cmp_L {n : Nat} (c : Col) : cmpB (n + 3) (encL c) = true := by
  have hb : cmpBs (n + 1) (encB c.beds) = true := cmpBs_of fun x m => by
    obtain ⟨b, _, rfl⟩ := List.mem_map.mp m
    show cmpB (n + 1) (.tup [.str b.x, .int b.t, mk b.m]) = true
    simp only [cmpB, cmpBs, cmp_mk, Bool.and_self]
    all_goals (cases n <;> rfl)
  show cmpB (n + 2 + 1) (.tup [mk c.root, .int c.foot, mk c.mark, .lst (encB c.beds)]) = true
  simp only [cmpB, cmpBs, cmp_mk, hb, Bool.and_self]
theorem cmp_Ls {cs : List Col} : cmpB 60 (.lst (cs.map encL)) = true := by
  show cmpBs 59 (cs.map encL) = true
  exact cmpBs_of fun x m => by
    obtain ⟨c, _, rfl⟩ := List.mem_map.mp m
    exact cmp_L (n := 56) c
theorem pickL_ok {xs : List P} (h0 : 0 < xs.length) (h1 : xs.length < 2 ^ 64) {k : Nat} {c : Cell} {R : Store} (hF : Fd (k + 1) c) : ∃ v c', m__law_pick__2 [.cell 0, .p (.lst xs)] (c :: R) = .ok (.p v) (c' :: R) ∧ Fd k c' ∧ v ∈ xs := by
  obtain ⟨_, c', e, F, i, rfl, i0, i1⟩ := lift_drw (R := R) (ps := [.int xs.length]) (draw_ok (many := xs.length) (by omega) (by omega)) rfl hF
  simp only [List.map_cons, List.map_nil] at e
  obtain ⟨x, e2, hx⟩ := atI_lt (xs := xs) i0 (by simpa using i1)
  refine ⟨x, c', ?_, F, by simpa using hx⟩
  rw [m__law_pick__2_e]
  unfold f__law_pick__2
  generalize liftM m__law_draw = LM at *
  wide_line with [e, e2, finN_rt]
section
variable {S : Store} {c : Col}
theorem told_eq (hl : c.beds.length ≤ 1000) : m__law_told_column [.p (encC c)] S = .ok (.p (encL c)) S := by
  have l0 : (encB c.beds).length ≤ 16777216 := by rw [encB_len]; omega
  have a1 := at_root (c := c) (S := S)
  have a2 := at_foot (c := c) (S := S)
  have a3 := at_mark (c := c) (S := S)
  have a4 := at_beds (c := c) (S := S)
  rw [m__law_told_column_e]
  unfold f__law_told_column f__law_told_column_L1 encL
  generalize encC c = ec at *
  wide_line with [a1, a2, a3, a4, l0]
end
def isCl : P → Bool
  | .obj c _ _ => is_Column c
  | _ => false
def okItem (v : P) : Prop := (∃ c : Col, v = encC c) ∨ tame v
theorem isCl_C (c : Col) : isCl (encC c) = true := by
  rw [encC_top]
  rfl
theorem isCl_t {v : P} (h : tame v) : isCl v = false := by
  cases v with
  | obj _ _ _ => simp only [tame] at h
  | _ => rfl
theorem isK_it {v : P} (h : okItem v) (S : Store) : dIsK kinds is_Column (.p v) S = .ok (.p (.bl (isCl v))) S := by
  rcases h with ⟨c, rfl⟩ | h
  · rw [encC_top]
    rfl
  · cases v with
    | ty _ => simp only [tame] at h
    | scr _ => simp only [tame] at h
    | obj _ _ _ => simp only [tame] at h
    | dT _ _ => simp only [tame] at h
    | cel _ => simp only [tame] at h
    | fK _ _ => simp only [tame] at h
    | _ => rfl
abbrev exCols (g : P) : Exc := ⟨"InvalidColumns", [Str.ofString "value"], [g]⟩
section
variable {S : Store} {g : P} {vs : List P}
def SeqG (S : Store) (g : P) (vs : List P) : Prop := (∃ n, g = .cel n ∧ S[n]? = some (.lst vs)) ∨ g = .tup vs ∨ g = .lst vs
theorem SeqG.app {C : Cell} (h : SeqG S g vs) : SeqG (S ++ [C]) g vs := by
  rcases h with ⟨n, rfl, hn⟩ | h
  · exact .inl ⟨n, rfl, by rw [List.getElem?_append_left (List.getElem?_eq_some_iff.mp hn).1]; exact hn⟩
  · exact .inr h
theorem init2_lc (hi : ∀ v ∈ vs, okItem v) (hl : vs.length ≤ 1000) (r0 r1 : Option D) (T : Store) : lcF (.nm 2) wYes f_Section___init____2_E3 [r0, r1, none] (vs.map D.p) 0 T = .ok (vs.map fun v => .bl (isCl v)) T :=
  lcF_mapM (F := fun v : P => D.p v) (fun v => .bl (isCl v)) (fun v m => ⟨_, rfl, by
    have e := isK_it (hi v m) T
    unfold f_Section___init____2_E3
    generalize dIsK kinds is_Column = IK at *
    wide_line with [e]⟩) (by rw [sz]; omega)
theorem tames_mem : ∀ {xs : List P}, tames xs → ∀ x ∈ xs, tame x
  | [], _, _, m => nomatch m
  | y :: r, h, x, m => by
    simp only [tames] at h
    rcases List.mem_cons.mp m with rfl | m
    · exact h.1
    · exact tames_mem h.2 x m
theorem lendPs_free {T : Store} : ∀ {ps : List P}, freePs ps = true → lendPs T ps = some (ps, [])
  | [], _ => rfl
  | p :: ps, h => by
    simp only [freePs, Bool.and_eq_true] at h
    have n : nrm (.p p) = .p p := by
      cases p with
      | cel _ => simp only [freeP, Bool.false_eq_true, false_and] at h
      | _ => rfl
    simp only [lendPs, lendP, n, borrow, h.1, if_true, lendPs_free h.2, List.append_nil]
theorem all_run {X : P} (hX : X = .tup vs ∨ X = .lst vs) (hi : ∀ v ∈ vs, okItem v) (hl : vs.length ≤ 1000) : wCB (b1 dAll) (wCons (wLC (wIt (wVar 1)) (.nm 2) wYes f_Section___init____2_E3 [2]) wNil) [none, some (.p X), none] [] = .ok (.p (.bl ((vs.map isCl).all id))) [] := by
  have lc := init2_lc hi hl none (some (.p X)) []
  generalize f_Section___init____2_E3 = FE3 at *
  generalize eb : (vs.map isCl).all id = b
  rcases hX with rfl | rfl
  · wide_line with [lc, bls_map, eb]
  · wide_line with [lc, bls_map, eb]
theorem lent_all {a0 : Option D} (hg : SeqG S g vs) (hi : ∀ v ∈ vs, okItem v) (hl : vs.length ≤ 1000) (hf : freePs vs = true) : wLentC 1 (wCB (b1 dAll) (wCons (wLC (wIt (wVar 1)) (.nm 2) wYes f_Section___init____2_E3 [2]) wNil)) [a0, some (.p g), none] S = .ok (.p (.bl ((vs.map isCl).all id))) S := by
  rw [wLentC_e (d := .p g) rfl]
  rcases hg with ⟨n, rfl, hn⟩ | rfl | rfl
  · have b : borrowT S (.cell n) = some (.p (.lst vs), [n]) := by
      unfold borrowT borrow
      simp only [hn, hf, if_true]
    have e := all_run (X := .lst vs) (.inr rfl) hi hl
    show liftT _ (.cell n) S = _
    unfold liftT
    rw [b]
    show back0 [n] S (wCB (b1 dAll) _ [none, some (.p (.lst vs)), none] []) = _
    rw [e]
    rfl
  · have b : borrowT S (.p (.tup vs)) = some (.p (.tup vs), []) := by
      unfold borrowT
      simp only [lendPs_free hf]
    have e := all_run (X := .tup vs) (.inl rfl) hi hl
    show liftT _ (.p (.tup vs)) S = _
    unfold liftT
    rw [b]
    show back0 [] S (wCB (b1 dAll) _ [none, some (.p (.tup vs)), none] []) = _
    rw [e]
    rfl
  · have b : borrowT S (.p (.lst vs)) = some (.p (.lst vs), []) := by
      unfold borrowT borrow
      simp only [freeP, hf, if_true]
    have e := all_run (X := .lst vs) (.inr rfl) hi hl
    show liftT _ (.p (.lst vs)) S = _
    unfold liftT
    rw [b]
    show back0 [] S (wCB (b1 dAll) _ [none, some (.p (.lst vs)), none] []) = _
    rw [e]
    rfl
theorem init2_len (hg : SeqG S g vs) (hl : vs.length ≤ 1000) (h : ¬(1 ≤ vs.length ∧ vs.length ≤ 12)) : m_Section___init____2 [.cell S.length, .p g] (S ++ [.obj "Section" [] []]) = .ex (exCols g) (S ++ [.obj "Section" [] []]) := by
  have hT := hg.app (C := .obj "Section" [] [])
  rw [m_Section___init____2_e]
  unfold f_Section___init____2 f_Section___init____2_L1 f_Section___init____2_L2
  by_cases h1 : (1 : Int) ≤ (vs.length : Int)
  · have c2 : decide ((vs.length : Int) ≤ 12) = false := decide_eq_false (by omega)
    rcases hT with ⟨n, rfl, hn⟩ | rfl | rfl
    · wide_line using [wN, wL, nrm, lay, hn, h1, c2, finN_ex]
    · wide_line using [wN, wL, nrm, lay, h1, c2, finN_ex]
    · wide_line using [wN, wL, nrm, lay, h1, c2, finN_ex]
  · rcases hT with ⟨n, rfl, hn⟩ | rfl | rfl
    · wide_line using [wN, wL, nrm, lay, hn, h1, finN_ex]
    · wide_line using [wN, wL, nrm, lay, h1, finN_ex]
    · wide_line using [wN, wL, nrm, lay, h1, finN_ex]
theorem init2_bad (hg : SeqG S g vs) (hi : ∀ v ∈ vs, okItem v) (hf : freePs vs = true) (h1 : 1 ≤ vs.length) (h2 : vs.length ≤ 12) (h : ∃ v ∈ vs, isCl v = false) : m_Section___init____2 [.cell S.length, .p g] (S ++ [.obj "Section" [] []]) = .ex (exCols g) (S ++ [.obj "Section" [] []]) := by
  have hT := hg.app (C := .obj "Section" [] [])
  have c1 : (1 : Int) ≤ (vs.length : Int) := by omega
  have c2 : (vs.length : Int) ≤ 12 := by omega
  have al : (vs.map isCl).all id = false := by
    obtain ⟨v, m, e⟩ := h
    rw [List.all_eq_false]
    exact ⟨false, List.mem_map.mpr ⟨v, m, e⟩, by simp⟩
  have lc := lent_all (a0 := some (.cell S.length)) hT hi (by omega) hf
  rw [al] at lc
  rw [m_Section___init____2_e]
  unfold f_Section___init____2 f_Section___init____2_L1 f_Section___init____2_L2 f_Section___init____2_L3 f_Section___init____2_L4
  generalize wLentC _ _ = WL at *
  rcases hT with ⟨n, rfl, hn⟩ | rfl | rfl
  · wide_line using [wN, wL, nrm, lay, hn, c1, c2, lc, finN_ex]
  · wide_line using [wN, wL, nrm, lay, c1, c2, lc, finN_ex]
  · wide_line using [wN, wL, nrm, lay, c1, c2, lc, finN_ex]
theorem init2_ok (hg : SeqG S g vs) (hi : ∀ v ∈ vs, okItem v) (hf : freePs vs = true) (h1 : 1 ≤ vs.length) (h2 : vs.length ≤ 12) (h : ∀ v ∈ vs, isCl v = true) : m_Section___init____2 [.cell S.length, .p g] (S ++ [.obj "Section" [] []]) = .ok (.p .non) (S ++ [.obj "Section" [Str.ofString "columns"] [.tup vs]]) := by
  have hT := hg.app (C := .obj "Section" [] [])
  have c1 : (1 : Int) ≤ (vs.length : Int) := by omega
  have c2 : (vs.length : Int) ≤ 12 := by omega
  have l0 : vs.length ≤ 16777216 := by omega
  have al : (vs.map isCl).all id = true := by
    rw [List.all_eq_true]
    intro b m
    obtain ⟨v, mv, rfl⟩ := List.mem_map.mp m
    exact h v mv
  have lc := lent_all (a0 := some (.cell S.length)) hT hi (by omega) hf
  rw [al] at lc
  rw [m_Section___init____2_e]
  unfold f_Section___init____2 f_Section___init____2_L1 f_Section___init____2_L3 f_Section___init____2_L5
  generalize wLentC _ _ = WL at *
  rcases hT with ⟨n, rfl, hn⟩ | rfl | rfl
  · wide_line using [wN, wL, nrm, lay, hn, c1, c2, lc, l0, finN_nx]
  · wide_line using [wN, wL, nrm, lay, c1, c2, lc, l0, finN_nx]
  · wide_line using [wN, wL, nrm, lay, c1, c2, lc, l0, finN_nx]
def notSeq : P → Bool
  | .tup _ => false
  | .lst _ => false
  | _ => true
theorem init2_no (ht : tame g) (h : notSeq g = true) : m_Section___init____2 [.cell S.length, .p g] (S ++ [.obj "Section" [] []]) = .ex (exCols g) (S ++ [.obj "Section" [] []]) := by
  rw [m_Section___init____2_e]
  unfold f_Section___init____2 f_Section___init____2_L1 f_Section___init____2_L2
  cases g with
  | ty _ => simp only [tame] at ht
  | scr _ => simp only [tame] at ht
  | obj _ _ _ => simp only [tame] at ht
  | dT _ _ => simp only [tame] at ht
  | cel _ => simp only [tame] at ht
  | fK _ _ => simp only [tame] at ht
  | tup _ => cases h
  | lst _ => cases h
  | _ => wide_line using [wN, wL, nrm, lay, finN_ex]
theorem init2_any (ht : tame g) (hf : freeP g = true) : m_Section___init____2 [.cell S.length, .p g] (S ++ [.obj "Section" [] []]) = .ex (exCols g) (S ++ [.obj "Section" [] []]) := by
  have go : ∀ vs : List P, SeqG S g vs → vs.length ≤ 1000 → tames vs → freePs vs = true → m_Section___init____2 [.cell S.length, .p g] (S ++ [.obj "Section" [] []]) = .ex (exCols g) (S ++ [.obj "Section" [] []]) := by
    intro vs hg hl tv hf
    have tv : ∀ v ∈ vs, tame v := tames_mem tv
    by_cases h : 1 ≤ vs.length ∧ vs.length ≤ 12
    · refine init2_bad hg (fun v m => .inr (tv v m)) hf h.1 h.2 ?_
      match vs, h.1, tv with
      | v :: r, _, tv => exact ⟨v, List.mem_cons_self .., isCl_t (tv v (List.mem_cons_self ..))⟩
    · exact init2_len hg hl h
  cases e : notSeq g with
  | true => exact init2_no ht e
  | false =>
    cases g with
    | tup xs =>
      simp only [tame] at ht
      exact go xs (.inr (.inl rfl)) ht.1 ht.2 (by simpa only [freeP] using hf)
    | lst xs =>
      simp only [tame] at ht
      exact go xs (.inr (.inr rfl)) ht.1 ht.2 (by simpa only [freeP] using hf)
    | _ => cases e
end
section
variable {S : Store} {g : P} {r : Rho} {i : Nat}
abbrev mkE (i : Nat) : FE := wFrz (wMakeO "Section" m_Section___init____2 1 gbd_Section_1 (wCons (wVar i) wNil))
theorem mk2_arg (hr : r[i]? = some (some (.p g))) : wCons (wVar i) wNil r S = .ok [.p g] S := by
  unfold wCons wVar wNil
  rw [hr]
  rfl
theorem mk2_ex (hr : r[i]? = some (some (.p g))) (e : m_Section___init____2 [.cell S.length, .p g] (S ++ [.obj "Section" [] []]) = .ex (exCols g) (S ++ [.obj "Section" [] []])) : mkE i r S = .ex (exCols g) (S ++ [.obj "Section" [] []]) := by
  have e' : m_Section___init____2 (gbd_Section_1 [.cell S.length, .p g] []) (S ++ [.obj "Section" [] []]) = .ex (exCols g) (S ++ [.obj "Section" [] []]) := e
  show (wMakeO "Section" m_Section___init____2 1 gbd_Section_1 (wCons (wVar i) wNil) r S).bind frz = _
  rw [wMakeO_e, mk2_arg hr, bind_ok, mkOK_e, if_pos (by rfl), e', mkOF_ex]
  rfl
theorem mk2_ok {cs : List Col} (hr : r[i]? = some (some (.p g))) (e : m_Section___init____2 [.cell S.length, .p g] (S ++ [.obj "Section" [] []]) = .ok (.p .non) (S ++ [.obj "Section" [Str.ofString "columns"] [.tup (cs.map encC)]])) : mkE i r S = .ok (.p (encS cs)) (S ++ [.dead]) := by
  have e' : m_Section___init____2 (gbd_Section_1 [.cell S.length, .p g] []) (S ++ [.obj "Section" [] []]) = .ok (.p .non) (S ++ [.obj "Section" [Str.ofString "columns"] [.tup (cs.map encC)]]) := e
  show (wMakeO "Section" m_Section___init____2 1 gbd_Section_1 (wCons (wVar i) wNil) r S).bind frz = _
  rw [wMakeO_e, mk2_arg hr, bind_ok, mkOK_e, if_pos (by rfl), e', mkOF_ok, bind_ok]
  unfold frz
  simp only [get_app, set_app]
  rfl
end
section
variable {ACT : Store → O D} {S S' : Store} {cs : List Col} {v : P}
theorem caught_ok (h : ACT S = .ok (.p (encS cs)) S') (hb : ∀ c ∈ cs, c.beds.length ≤ 1000) (hl : cs.length ≤ 1000) : mcN N__law_caught__2 f__law_caught__2 ACT S = .ok (.p (.tup [.str (Str.ofString "made"), .lst (cs.map encL)])) S' := by
  have ac := at_columns (cs := cs) (S := S')
  have lc : lcF (.nm 2) wYes (f__law_caught__2_E2 ACT) [some .fn, none, none] (cs.map fun c => D.p (encC c)) 0 S' = .ok (cs.map encL) S' :=
    lcF_mapM (F := fun c => D.p (encC c)) encL (fun c m => by
      have t := lift_data (m := m__law_told_column) (ps := [encC c]) (v := encL c) (S := S') (by simp only [freePs, free_C, Bool.and_self]) (told_eq (S := []) (hb c m))
      simp only [List.map_cons, List.map_nil] at t
      refine ⟨_, rfl, ?_⟩
      unfold f__law_caught__2_E2
      generalize liftM m__law_told_column = LT at *
      wide_line with [t]) (by rw [sz]; omega)
  rw [mc__law_caught__2_e]
  unfold f__law_caught__2 f__law_caught__2_L1 f__law_caught__2_B2 f__law_caught__2_L2
  generalize f__law_caught__2_E2 = FE2 at *
  generalize f__law_caught__2_B4 = FB4 at *
  generalize f__law_caught__2_B6 = FB6 at *
  generalize encS cs = es at *
  wide_line with [wAct, h, noFn, ac, map_encC_p, lc, finN_rt]
theorem caught_cols (h : ACT S = .ex (exCols v) S') : mcN N__law_caught__2 f__law_caught__2 ACT S = .ok (.p (.tup [.str (Str.ofString "columns"), v, .bl true])) S' := by
  rw [mc__law_caught__2_e]
  unfold f__law_caught__2 f__law_caught__2_L1 f__law_caught__2_B2 f__law_caught__2_L2 f__law_caught__2_B4 f__law_caught__2_L4
  generalize f__law_caught__2_B6 = FB6 at *
  wide_line using [wAct, h, noFn, exm_InvalidColumns, kinds, show is_ValueError "InvalidColumns" = true from rfl, finN_rt]
theorem caught_width {d n : Nat} (h : ACT S = .ex ⟨"WrongWidth", [Str.ofString "width"], [v]⟩ S') (rv : rp d n v) (hd : d ≤ 60) (hn : n ≤ 16777216) : mcN N__law_caught__2 f__law_caught__2 ACT S = .ok (.p (.tup [.str (Str.ofString "width"), .str (tx v), .bl true])) S' := by
  have rr := repr_tx rv hd hn S'
  have am : dAttr cs_width (Str.ofString "width") (.p (.obj "WrongWidth" [Str.ofString "width"] [v])) S' = .ok (.p v) S' := by wide_line using []
  rw [mc__law_caught__2_e]
  unfold f__law_caught__2 f__law_caught__2_L1 f__law_caught__2_B2 f__law_caught__2_L2 f__law_caught__2_B4 f__law_caught__2_L4 f__law_caught__2_B6 f__law_caught__2_L6
  wide_line using [wAct, h, noFn, exm_InvalidColumns, exm_WrongWidth, kinds, show is_ValueError "WrongWidth" = true from rfl, am, rr, finN_rt]
end
abbrev exWd (v : P) : Exc := ⟨"WrongWidth", [Str.ofString "width"], [v]⟩
def wid : P → Option Nat
  | .int i => if (1 : Int) ≤ i then if i ≤ 12 then some i.toNat else none else none
  | _ => none
theorem wid_some {v : P} {n : Nat} (h : wid v = some n) : v = .int n ∧ 1 ≤ n ∧ n ≤ 12 := by
  unfold wid at h
  split at h
  · split at h
    · split at h
      · cases h
        rename_i i h1 h2
        obtain ⟨j, rfl⟩ := Int.eq_ofNat_of_zero_le (show 0 ≤ i by omega)
        exact ⟨by simp, by omega, by omega⟩
      · cases h
    · cases h
  · cases h
theorem wid_nat {n : Nat} (h0 : 1 ≤ n) (h1 : n ≤ 12) : wid (.int n) = some n := by
  unfold wid
  dsimp only
  rw [if_pos (by omega), if_pos (by omega)]
  rfl
theorem need_width_eq {v : P} (h : tame v) (S : Store) : m_need_width [.p v] S = if (wid v).isSome then .ok (.p .non) S else .ex (exWd v) S := by
  have lv := is_level_eq h S
  rw [m_need_width_e]
  unfold f_need_width
  cases v with
  | int i =>
    by_cases c1 : (1 : Int) ≤ i
    · have d1 : decide ((1 : Int) ≤ i) = true := decide_eq_true c1
      by_cases c2 : i ≤ 12
      · have d2 : decide (i ≤ 12) = true := decide_eq_true c2
        have w : wid (.int i) = some i.toNat := by unfold wid; dsimp only; rw [if_pos c1, if_pos c2]
        rw [w]
        wide_line with [lv, isInt, d1, d2, Option.isSome_some]
      · have d2 : decide (i ≤ 12) = false := decide_eq_false c2
        have w : wid (.int i) = none := by unfold wid; dsimp only; rw [if_pos c1, if_neg c2]
        rw [w]
        wide_line with [lv, isInt, d1, d2, Option.isSome_none]
    · have d1 : decide ((1 : Int) ≤ i) = false := decide_eq_false c1
      have w : wid (.int i) = none := by unfold wid; dsimp only; rw [if_neg c1]
      rw [w]
      wide_line with [lv, isInt, d1, Option.isSome_none]
  | _ => wide_line with [lv, isInt, wid, Option.isSome_none]
def flatC (f : Int) : Col := ⟨f, [], none, none⟩
theorem flatC_ok (f : Int) : ColOk (flatC f) := ⟨noBeds, trivial, nameO_none, nameO_none⟩
theorem rngD_rep {α : Type} {n : Nat} (x : α) : ((List.range n).map fun _ => x) = List.replicate n x := by
  induction n with
  | zero => rfl
  | succ n ih => rw [List.range_succ, List.map_append, ih, List.replicate_succ']; rfl
theorem flat_eq {v : P} (hv : tame v) (S : Store) : m_Section_flat [.fn, .p v] S = match wid v with
    | some n => .ok (.p (encS (List.replicate n (flatC 0)))) S
    | none => .ex (exWd v) S := by
  have nw := need_width_eq hv S
  rw [m_Section_flat_e]
  unfold f_Section_flat
  cases w : wid v with
  | none =>
    rw [w, Option.isSome_none, if_neg (by simp)] at nw
    wide_line with [nw]
  | some n =>
    rw [w, Option.isSome_some, if_pos rfl] at nw
    obtain ⟨rfl, n0, n1⟩ := wid_some w
    have hn := in62_of (i := (n : Int)) (by omega) (by omega)
    have rg : rngD 0 n = (List.range n).map fun i => D.p (.int (i : Nat)) := by
      unfold rngD
      simp
    have key := col_make (c := flatC 0) (flatC_ok 0) (by simp [flatC]) (.inl rfl) S
    have e0 : P.tup (encB (flatC 0).beds) = .tup [] := rfl
    have lc : lcF (.nm 2) wYes f_Section_flat_1 [some .fn, some (.p (.int n)), none] ((List.range n).map fun i => D.p (.int (i : Nat))) 0 S = .ok ((List.range n).map fun _ => encC (flatC 0)) S :=
      lcF_mapM (F := fun i : Nat => D.p (.int (i : Nat))) (fun _ : Nat => encC (flatC 0)) (fun i m => by
        refine ⟨_, rfl, ?_⟩
        unfold f_Section_flat_1
        rw [e0] at key
        wide_line with [gbd_Column_0]
        exact key) (by rw [sz, List.length_range]; omega)
    rw [rngD_rep] at lc
    have sm := sec_make (cs := List.replicate n (flatC 0)) (by simpa using n0) (by simpa using n1) (.inr rfl) S
    rw [List.map_replicate] at sm
    wide_line with [nw, hn, Int.toNat_natCast, rg]
    rw [lc]
    wide_line with [gbd_Section_1, sm]
theorem fineL {n : Nat} {c : Col} (ok : ColOk c) : fine (n + 4) (encL c) = true := by
  show (fine (n + 3) (mk c.root) && (fine (n + 3) (.int c.foot) && (fine (n + 3) (mk c.mark) && (fine (n + 3) (.lst (encB c.beds)) && fines (n + 3) [])))) = true
  rw [fine_mk ok.root, fine_mk ok.mark]
  have : fine (n + 3) (.lst (encB c.beds)) = true := by
    show fines (n + 2) (encB c.beds) = true
    exact fines_encB ok.beds
  rw [this]
  rfl
theorem finesL {n : Nat} : ∀ {cs : List Col}, (∀ c ∈ cs, ColOk c) → fines (n + 4) (cs.map encL) = true
  | [], _ => rfl
  | c :: cs, h => by
    show (fine (n + 4) (encL c) && fines (n + 4) (cs.map encL)) = true
    rw [fineL (h c (List.mem_cons_self ..)), finesL fun d m => h d (List.mem_cons_of_mem _ m)]
    rfl
theorem secEq {cs : List Col} (h : ∀ c ∈ cs, ColOk c) (S : Store) : m_Section___eq__ [.p (encS cs), .p (encS cs)] S = .ok (.p (.bl true)) S := by
  have ea : EqAllS "Column" m_Column___eq__ (cs.map encC) (cs.map encC) := by
    induction cs with
    | nil => exact trivial
    | cons c cs ih =>
      have e := eq_eq (h c (List.mem_cons_self ..))
      refine ⟨?_, ih fun d m => h d (List.mem_cons_of_mem _ m)⟩
      rw [encC_top] at e ⊢
      exact ⟨rfl, rfl, e⟩
  have e : dEqS "Column" m_Column___eq__ (.p (.tup (cs.map encC))) (.p (.tup (cs.map encC))) S = .ok (.p (.bl true)) S := dEqS_ok ea
  rw [m_Section___eq___e]
  unfold f_Section___eq__
  have os : objOf S (.p (encS cs)) = some ("Section", [Str.ofString "columns"], [.tup (cs.map encC)]) := rfl
  wide_line with [at_columns, e, os, show is_Section "Section" = true from rfl]
theorem secEqO {cs : List Col} (h : ∀ c ∈ cs, ColOk c) (S : Store) : dEqO false "Section" m_Section___eq__ (.p (encS cs)) (.p (encS cs)) S = .ok (.p (.bl true)) S := by
  unfold dEqO
  rw [show objOf S (.p (encS cs)) = some ("Section", [Str.ofString "columns"], [.tup (cs.map encC)]) from rfl]
  dsimp only
  rw [if_pos ⟨rfl, rfl⟩, secEq h]
  rfl
theorem bare_S (cs : List Col) : bareP (encS cs) = true := by
  have : barePs (cs.map encC) = true := by
    induction cs with
    | nil => rfl
    | cons c cs ih =>
      show (bareP (encC c) && barePs (cs.map encC)) = true
      rw [bare_C, ih]
      rfl
  show (bareP (.tup (cs.map encC)) && barePs []) = true
  simp only [bareP, this, barePs, Bool.and_self]
theorem free_Cs (cs : List Col) : freePs (cs.map encC) = true := free_all.mpr fun x m => by
  obtain ⟨c, _, rfl⟩ := List.mem_map.mp m
  exact free_C c
theorem built_eq {c : Col} (ok : ColOk c) (hl : c.beds.length ≤ 1000) (S : Store) : m__law_built [.p (encL c)] S = .ok (.p (encC c)) S := by
  have key := col_make ok hl (.inr rfl) S
  rw [m__law_built_e]
  unfold f__law_built f__law_built_L1 encL
  wide_line with [gbd_Column_2_root_mark, key]
theorem int_eq {v : P} (h : tame v) (S : Store) : m__law_is_int [.p v] S = .ok (.p (.bl (isInt v))) S := by
  rw [m__law_is_int_e]
  unfold f__law_is_int
  cases v with
  | ty _ => simp only [tame] at h
  | scr _ => simp only [tame] at h
  | obj _ _ _ => simp only [tame] at h
  | dT _ _ => simp only [tame] at h
  | cel _ => simp only [tame] at h
  | fK _ _ => simp only [tame] at h
  | _ => wide_line with [isInt]
section
variable {S : Store} {cs : List Col} {r : Rho}
theorem mkS {n : Nat} (h0 : 1 ≤ cs.length) (h1 : cs.length ≤ 12) (hn : S[n]? = some (.lst (cs.map encC))) {fk : FA} (h2 : fk r S = .ok [.cell n] S) : wMakeL "Section" m_Section___init__ 0 1 gbd_Section_0_columns wNil fk r S = .ok (.p (encS cs)) S := by
  have key := sec_make (cs := cs) h0 h1 (.inr rfl) []
  unfold wMakeL
  rw [show wNil r S = .ok [] S from rfl, bind_ok, h2, bind_ok, if_pos (by rfl)]
  exact lift0_one (p1 := []) (p2 := []) rfl rfl (free_Cs cs) hn (bare_S cs) key
theorem mk99 : wMakeL "Column" m_Column___init__ 1 0 gbd_Column_1 (wCons (wC (.p (.int 99))) wNil) wNil r S = .ok (.p (encC (flatC 99))) S := by
  have key := col_make (c := flatC 99) (flatC_ok 99) (by simp [flatC]) (.inl rfl) []
  unfold wMakeL
  rw [show wCons (wC (.p (.int 99))) wNil r S = .ok [.p (.int 99)] S from rfl, bind_ok, show wNil r S = .ok [] S from rfl, bind_ok, if_pos (by rfl)]
  exact lift0_data (ps := [.int 99]) rfl key
theorem told2 {c : Col} (hl : c.beds.length ≤ 1000) (S : Store) : liftM m__law_told_column [.p (encC c)] S = .ok (.p (encL c)) S := by
  have t := lift_data (m := m__law_told_column) (ps := [encC c]) (v := encL c) (S := S) (by simp only [freePs, free_C, Bool.and_self]) (told_eq (S := []) hl)
  simpa only [List.map_cons, List.map_nil] using t
theorem built2 {c : Col} (ok : ColOk c) (hl : c.beds.length ≤ 1000) (S : Store) : liftM m__law_built [.p (encL c)] S = .ok (.p (encC c)) S := by
  have t := lift_data (m := m__law_built) (ps := [encL c]) (v := encC c) (S := S) (by simp only [freePs, free_L, Bool.and_self]) (built_eq ok hl [])
  simpa only [List.map_cons, List.map_nil] using t
theorem int2 {v : P} (h : tame v) (hf : freeP v = true) (S : Store) : liftM m__law_is_int [.p v] S = .ok (.p (.bl (isInt v))) S := by
  have t := lift_data (m := m__law_is_int) (ps := [v]) (v := .bl (isInt v)) (S := S) (by simp only [freePs, hf, Bool.and_self]) (int_eq h [])
  simpa only [List.map_cons, List.map_nil] using t
theorem lent_flat {v : P} {i : Nat} (ht : tame v) (hf : freeP v = true) (hr : r[i]? = some (some (.p v))) (he : envOf r i (.p v) = (r.map fun _ => none).set i (some (.p v))) : wLent i (wClsM m_Section_flat (wCons (wVar i) wNil)) r S = match wid v with
    | some n => .ok (.p (encS (List.replicate n (flatC 0)))) S
    | none => .ex (exWd v) S := by
  have fe := flat_eq ht []
  have b : borrowT S (.p v) = some (.p v, []) := by
    cases v with
    | tup ps =>
      unfold borrowT
      simp only [lendPs_free (by simpa only [freeP] using hf)]
    | _ => simp only [borrowT, borrow, hf, if_true]
  have hi : i < r.length := (List.getElem?_eq_some_iff.mp hr).1
  have e : wClsM m_Section_flat (wCons (wVar i) wNil) (envOf r i (.p v)) [] = noFn (m_Section_flat [.fn, .p v] []) := by
    have a : wCons (wVar i) wNil (envOf r i (.p v)) [] = .ok [.p v] [] := by
      unfold wCons wVar wNil envOf
      rw [List.getElem?_set_self (by rw [List.length_map]; exact hi)]
      rfl
    rw [wClsM_e, a, bind_ok, clmK_e1]
  unfold wLent
  rw [hr]
  dsimp only
  unfold liftT
  rw [b]
  show back0 [] S (wClsM m_Section_flat (wCons (wVar i) wNil) (envOf r i (.p v)) []) = _
  rw [e, fe]
  cases wid v <;> rfl
end
theorem ixN_nat {n j : Nat} (h : j < n) : ixN n (j : Int) = some j := by
  unfold ixN
  rw [if_pos (by omega), if_pos (by omega)]
  simp
abbrev tabC : ITab := [("Column", (liftM m_Column___eq__))]
theorem own_C {c : Col} (ok : ColOk c) : EqOneT tabC true (encC c) (encC c) := by
  have key : ∀ S, (liftM m_Column___eq__) [.p (encC c), .p (encC c)] S = .ok (.p (.bl true)) S := fun S => by
    have t := lift_data (m := m_Column___eq__) (ps := [encC c, encC c]) (v := .bl true) (S := S) (by simp only [freePs, free_C, Bool.and_self]) (eq_eq ok [])
    simpa only [List.map_cons, List.map_nil] using t
  rw [encC_top] at key ⊢
  exact ⟨rfl, ⟨_, rfl, key⟩, .inl rfl⟩
def okV (v : P) : Prop := okItem v ∧ freeP v = true ∧ EqI tabC v v
theorem okV_C {c : Col} (ok : ColOk c) : okV (encC c) := ⟨.inl ⟨c, rfl⟩, free_C c, .inr (.inr (own_C ok))⟩
theorem okV_any {d : Nat} {v : P} (h : anyS d v) (hd : d < 20) : okV v := ⟨.inr h.1.1, h.free, .inl (h.sm hd)⟩
theorem rw_self {R : P → P → Prop} : ∀ {vs : List P}, (∀ v ∈ vs, R v v) → EqRw R vs vs
  | [], _ => trivial
  | v :: vs, h => ⟨h v (List.mem_cons_self ..), rw_self fun u m => h u (List.mem_cons_of_mem _ m)⟩
theorem cols_same {S : Store} {g : P} {vs : List P} (hg : SeqG S g vs) (hv : ∀ v ∈ vs, okV v) (hl : g = .lst vs → False) : EqRw (EqJ tabC) [.str (Str.ofString "columns"), g, .bl true] [.str (Str.ofString "columns"), g, .bl true] := by
  have e1 : EqJ tabC (.str (Str.ofString "columns")) (.str (Str.ofString "columns")) := .inl (.inl ⟨rfl, rfl⟩)
  have e3 : EqJ tabC (.bl true) (.bl true) := .inl (.inl ⟨rfl, rfl⟩)
  refine ⟨e1, ?_, e3, trivial⟩
  rcases hg with ⟨n, rfl, _⟩ | rfl | rfl
  · exact .inl (.inr (.inl ⟨n, rfl, rfl⟩))
  · exact .inr ⟨vs, vs, rfl, rfl, rw_self fun v m => (hv v m).2.2⟩
  · exact (hl rfl).elim
theorem any_same {d : Nat} {g : P} (h : anyS d g) (hd : d < 20) : EqRw (EqJ tabC) [.str (Str.ofString "columns"), g, .bl true] [.str (Str.ofString "columns"), g, .bl true] :=
  ⟨.inl (.inl ⟨rfl, rfl⟩), .inl (.inl (h.sm hd)), .inl (.inl ⟨rfl, rfl⟩), trivial⟩
theorem made_same {cs : List Col} : EqRw (EqJ tabC) [.str (Str.ofString "made"), .lst (cs.map encL)] [.str (Str.ofString "made"), .lst (cs.map encL)] :=
  ⟨.inl (.inl ⟨rfl, rfl⟩), .inl (.inl ⟨rfl, cmp_Ls⟩), trivial⟩
def madeT (cs : List Col) : P := .tup [.str (Str.ofString "made"), .lst (cs.map encL)]
def colsT (g : P) : P := .tup [.str (Str.ofString "columns"), g, .bl true]
theorem set_at1 {f c c' : Cell} {R : Store} : (f :: (R ++ [c])).set (R.length + 1) c' = f :: (R ++ [c']) := by simp
theorem get_at1 {f c : Cell} {R : Store} : (f :: (R ++ [c]))[R.length + 1]? = some c := by simp
section
variable {cs : List Col} {f : Cell} {R : Store} {k : Nat} {x0 x2 x3 x4 x5 x6 x7 x8 x9 x10 x11 x12 x13 x14 x15 x16 : Option D}
theorem l3_ok (hF : Fd (k + 40) f) : ∃ ps n f', f_law_L3 [x0, some (.cell 0), x2, x3, x4, x5, x6, x7, x8, x9, x10, x11, x12, x13, x14, x15, x16] (f :: R) = .nx [x0, some (.cell 0), x2, x3, x4, x5, x6, x7, x8, x9, x10, some (.p (.lst ps)), some (.p (.int (n : Nat))), x13, x14, x15, x16] (f' :: R) ∧ Fd k f' ∧ 0 < ps.length ∧ ps.length ≤ 26 ∧ (∀ x ∈ ps, isName x = true) ∧ n ≤ 14 := by
  obtain ⟨_, f1, e1, F1, ps, rfl, p0, p1, hp⟩ := lift_drw (R := R) (ps := []) pool_ok rfl (hF.le (show k + 26 + 14 ≤ k + 40 by omega))
  simp only [List.map_nil] at e1
  obtain ⟨v, f2, e2, F2, hv⟩ := pickL_ok (xs := [.int 0, .int 1, .int 2, .int 3, .int 11, .int 12, .int 13, .int 14]) (by simp) (by simp) (R := R) (F1.le (show k + 1 ≤ k + 26 by omega))
  obtain ⟨n, rfl, hn⟩ : ∃ n : Nat, v = .int (n : Nat) ∧ n ≤ 14 := by
    simp only [List.mem_cons, List.not_mem_nil, or_false] at hv
    rcases hv with rfl | rfl | rfl | rfl | rfl | rfl | rfl | rfl
    · exact ⟨0, rfl, by decide⟩
    · exact ⟨1, rfl, by decide⟩
    · exact ⟨2, rfl, by decide⟩
    · exact ⟨3, rfl, by decide⟩
    · exact ⟨11, rfl, by decide⟩
    · exact ⟨12, rfl, by decide⟩
    · exact ⟨13, rfl, by decide⟩
    · exact ⟨14, rfl, by decide⟩
  refine ⟨ps, n, f2, ?_, F2, p0, p1, hp, hn⟩
  unfold f_law_L3
  generalize liftM m__law_pool = LP at *
  generalize m__law_pick__2 = PK at *
  wide_line with [e1, e2]
theorem l4_ok {ps : List P} {n : Nat} (hF : Fd (k + 81 * 14) f) (p0 : 0 < ps.length) (p1 : ps.length ≤ 26) (hp : ∀ x ∈ ps, isName x = true) (hn : n ≤ 14) :
    ∃ (cs : List Col) (f' : Cell), f_law_L4 [x0, some (.cell 0), x2, x3, x4, x5, x6, x7, x8, x9, x10, some (.p (.lst ps)), some (.p (.int (n : Nat))), x13, x14, x15, x16] (f :: R) = .nx [x0, some (.cell 0), x2, some (.p (.lst (cs.map encL))), x4, x5, x6, x7, x8, x9, x10, some (.p (.lst ps)), some (.p (.int (n : Nat))), x13, x14, x15, x16] (f' :: R) ∧ Fd k f' ∧ cs.length = n ∧ ∀ c ∈ cs, ColOk c ∧ c.beds.length ≤ 1000 := by
  obtain ⟨xs, f', e, F, l, hx⟩ := lcF_drw (T := .nm 14) (fe := f_law_E4) (r0 := [x0, some (.cell 0), x2, x3, x4, x5, x6, x7, x8, x9, x10, some (.p (.lst ps)), some (.p (.int (n : Nat))), x13, none, x15, x16]) (R := R) 81 isCol (ds := rngD 0 (n : Int).toNat) (k := k) (c := f) (hF.le (by rw [rng_len]; omega)) (fun d _ j c hc => by
    obtain ⟨v, c', g1, g2, g3⟩ := lift_drw (R := R) (ps := [.lst ps, .int 2]) (column_ok (most := 2) p0 p1 hp (by decide) (by decide)) (by simp only [freePs, freeP, names_free hp, Bool.and_self]) hc
    simp only [List.map_cons, List.map_nil] at g1
    exact ⟨_, v, c', rfl, by
      unfold f_law_E4
      generalize liftM m__law_column = LC at *
      wide_line with [g1], g2, g3⟩) (by rw [rng_len]; omega)
  rw [rng_len] at l
  obtain ⟨cs, rfl, hcs⟩ : ∃ cs : List Col, xs = cs.map encL ∧ ∀ c ∈ cs, ColOk c ∧ c.beds.length ≤ 1000 := by
    clear e l
    induction xs with
    | nil => exact ⟨[], rfl, fun _ m => nomatch m⟩
    | cons x xs ih =>
      obtain ⟨c, rfl, ok, hl⟩ := col_of (hx x (List.mem_cons_self ..))
      obtain ⟨cs, rfl, g⟩ := ih fun y m => hx y (List.mem_cons_of_mem _ m)
      exact ⟨c :: cs, rfl, fun y m => by
        rcases List.mem_cons.mp m with rfl | m
        · exact ⟨ok, by omega⟩
        · exact g y m⟩
  have h62 := in62_of (i := (n : Int)) (by omega) (by omega)
  refine ⟨cs, f', ?_, F, by rw [List.length_map] at l; omega, hcs⟩
  unfold f_law_L4
  generalize f_law_E4 = FE at *
  wide_line with [h62, e]
end
section
variable {cs : List Col} {S : Store} {f : Cell} {R : Store} {k n : Nat} {x0 x2 x4 x5 x6 x7 x8 x9 x10 x11 x13 x14 x15 x16 : Option D}
theorem l5_ok (hc : ∀ c ∈ cs, ColOk c ∧ c.beds.length ≤ 1000) (hl : cs.length ≤ 14) : f_law_L5 [x0, some (.cell 0), x2, some (.p (.lst (cs.map encL))), x4, x5, x6, x7, x8, x9, x10, x11, some (.p (.int cs.length)), x13, x14, x15, x16] S = .nx [x0, some (.cell 0), x2, some (.p (.lst (cs.map encL))), some (.cell S.length), x5, x6, x7, x8, x9, x10, x11, some (.p (.int cs.length)), x13, x14, x15, x16] (S ++ [.lst (cs.map encC)]) := by
  have lc : lcF (.nm 15) wYes f_law_E5 [x0, some (.cell 0), x2, some (.p (.lst (cs.map encL))), x4, x5, x6, x7, x8, x9, x10, x11, some (.p (.int cs.length)), x13, x14, none, x16] (cs.map fun c => D.p (encL c)) 0 S = .ok (cs.map encC) S :=
    lcF_mapM (F := fun c => D.p (encL c)) encC (fun c m => by
      have b := built2 (hc c m).1 (hc c m).2 S
      refine ⟨_, rfl, ?_⟩
      unfold f_law_E5
      generalize liftM m__law_built = LB at *
      wide_line with [b]) (by rw [sz]; omega)
  have ml : (cs.map encL).map D.p = cs.map fun c => D.p (encL c) := by
    rw [List.map_map]
    rfl
  have w1 : wLCC (wIt (wVar 3)) (.nm 15) wYes f_law_E5 [15] [x0, some (.cell 0), x2, some (.p (.lst (cs.map encL))), x4, x5, x6, x7, x8, x9, x10, x11, some (.p (.int cs.length)), x13, x14, x15, x16] S = .ok (.cell S.length) (S ++ [.lst (cs.map encC)]) := by
    have it : wIt (wVar 3) [x0, some (.cell 0), x2, some (.p (.lst (cs.map encL))), x4, x5, x6, x7, x8, x9, x10, x11, some (.p (.int cs.length)), x13, x14, x15, x16] S = .ok (cs.map fun c => D.p (encL c)) S := by
      rw [← ml]
      rfl
    unfold wLCC
    rw [it, bind_ok]
    unfold lcKC
    show (lcF (.nm 15) wYes f_law_E5 [x0, some (.cell 0), x2, some (.p (.lst (cs.map encL))), x4, x5, x6, x7, x8, x9, x10, x11, some (.p (.int cs.length)), x13, x14, none, x16] _ 0 S).bind _ = _
    rw [lc, bind_ok]
    rfl
  unfold f_law_L5
  generalize wLCC _ _ _ _ _ = W at *
  wide_line with [w1]
theorem l6_ok (hF : Fd (k + 1) f) : ∃ b f', f_law_L6 [x0, some (.cell 0), x2, some (.p (.lst (cs.map encL))), x4, x5, x6, x7, x8, x9, x10, x11, some (.p (.int cs.length)), x13, x14, x15, x16] (f :: R) = .nx [x0, some (.cell 0), x2, some (.p (.lst (cs.map encL))), x4, some (.p (.bl b)), x6, x7, x8, x9, x10, x11, some (.p (.int cs.length)), x13, x14, x15, x16] (f' :: R) ∧ Fd k f' ∧ (b = true → 0 < cs.length) := by
  obtain ⟨_, f1, e1, F1, i, rfl, i0, i1⟩ := lift_drw (R := R) (ps := [.int 2]) (draw_ok (many := 2) (by decide) (by decide)) rfl hF
  simp only [List.map_cons, List.map_nil] at e1
  have q := eq_ii (i := i) (j := 0) (S := f1 :: R)
  by_cases hi : i = 0
  · rw [decide_eq_true hi] at q
    refine ⟨decide ((0 : Int) < (cs.length : Int)), f1, ?_, F1, fun h => by have := of_decide_eq_true h; omega⟩
    unfold f_law_L6
    generalize liftM m__law_draw = LM at *
    wide_line with [e1, q]
  · rw [decide_eq_false hi] at q
    refine ⟨false, f1, ?_, F1, fun h => by cases h⟩
    unfold f_law_L6
    generalize liftM m__law_draw = LM at *
    wide_line with [e1, q]
theorem l7_ok {b : Bool} (hF : Fd (k + 40) f) (hc : ∀ c ∈ cs, ColOk c ∧ c.beds.length ≤ 1000) (hl : cs.length ≤ 14) (hb : b = true → 0 < cs.length) :
    ∃ vs f', f_law_L7 [x0, some (.cell 0), x2, some (.p (.lst (cs.map encL))), some (.cell (R.length + 1)), some (.p (.bl b)), x6, x7, x8, x9, x10, x11, some (.p (.int cs.length)), x13, x14, x15, x16] (f :: (R ++ [.lst (cs.map encC)])) = .nx [x0, some (.cell 0), x2, some (.p (.lst (cs.map encL))), some (.cell (R.length + 1)), some (.p (.bl b)), x6, x7, x8, x9, x10, x11, some (.p (.int cs.length)), x13, x14, x15, x16] (f' :: (R ++ [.lst vs])) ∧ Fd k f' ∧ vs.length = cs.length ∧ (∀ v ∈ vs, okV v) ∧ (if b = true then ∃ v ∈ vs, isCl v = false else vs = cs.map encC) := by
  have ok0 : ∀ v ∈ cs.map encC, okV v := fun v m => by
    obtain ⟨c, mc, rfl⟩ := List.mem_map.mp m
    exact okV_C (hc c mc).1
  cases b with
  | false =>
    refine ⟨cs.map encC, f, ?_, hF.le (by omega), List.length_map .., ok0, rfl⟩
    unfold f_law_L7
    generalize f_law_L8 = g8 at *
    wide_line
  | true =>
    have h0 := hb rfl
    obtain ⟨v, f1, e1, F1, hv⟩ := lift_drw (R := R ++ [.lst (cs.map encC)]) (ps := [.int (1 : Nat)]) (anyS_ok (d := 1) (by decide)) rfl (hF.le (show k + 1 + anyC 1 ≤ k + 40 by show k + 1 + 8 ≤ k + 40; omega))
    obtain ⟨_, f2, e2, F2, i, rfl, i0, i1⟩ := lift_drw (R := R ++ [.lst (cs.map encC)]) (ps := [.int cs.length]) (draw_ok (many := (cs.length : Int)) (by omega) (by omega)) rfl F1
    simp only [List.map_cons, List.map_nil] at e1 e2
    obtain ⟨j, rfl⟩ : ∃ j : Nat, i = (j : Int) := ⟨i.toNat, by omega⟩
    have hj : j < cs.length := by omega
    have pt : dLPut (.cell (R.length + 1)) (.p (.int (j : Int))) (.p v) (f2 :: (R ++ [.lst (cs.map encC)])) = .ok () (f2 :: (R ++ [.lst ((cs.map encC).set j v)])) := by
      have ix : ixN (cs.map encC).length (j : Int) = some j := ixN_nat (by rw [List.length_map]; exact hj)
      unfold dLPut
      simp only [get_at1, ix, set_at1]
    refine ⟨(cs.map encC).set j v, f2, ?_, F2, by rw [List.length_set, List.length_map], fun u m => ?_, ?_⟩
    · have e1 : liftM (m__law_any 3) [.cell 0, .p (.int 1)] (f :: (R ++ [.lst (cs.map encC)])) = _ := e1
      unfold f_law_L7 f_law_L8
      generalize R ++ [Cell.lst (cs.map encC)] = R1 at *
      generalize R ++ [Cell.lst ((cs.map encC).set j v)] = R2 at *
      generalize liftM m__law_draw = LM at *
      generalize liftM (m__law_any 3) = LA at *
      wide_line with [e1, e2, pt]
    · rcases List.mem_or_eq_of_mem_set m with m | rfl
      · exact ok0 u m
      · exact okV_any hv (by decide)
    · rw [if_pos rfl]
      exact ⟨v, List.mem_of_getElem? (List.getElem?_set_self (by rw [List.length_map]; exact hj)), isCl_t hv.1.1⟩
theorem l9_ok {vs : List P} {u5 : Option D} (hF : Fd (k + 1) f) (hl : vs.length ≤ 14) : ∃ g f', f_law_L9 [x0, some (.cell 0), x2, some (.p (.lst (cs.map encL))), some (.cell (R.length + 1)), u5, x6, x7, x8, x9, x10, x11, some (.p (.int cs.length)), x13, x14, x15, x16] (f :: (R ++ [.lst vs])) = .nx [x0, some (.cell 0), x2, some (.p (.lst (cs.map encL))), some (.cell (R.length + 1)), u5, some (.p g), x7, x8, x9, x10, x11, some (.p (.int cs.length)), x13, x14, x15, x16] (f' :: (R ++ [.lst vs])) ∧ Fd k f' ∧ SeqG (f' :: (R ++ [.lst vs])) g vs ∧ (g = .lst vs → False) := by
  obtain ⟨g, f1, e1, F1, hg⟩ := pickL_ok (xs := [.cel (R.length + 1), .tup vs]) (by simp) (by simp) (R := R ++ [.lst vs]) hF
  have l0 : vs.length ≤ 16777216 := by omega
  have hT : (f :: (R ++ [.lst vs]))[R.length + 1]? = some (.lst vs) := get_at1
  have tu : b1 dTupleOf [.cell (R.length + 1)] (f :: (R ++ [.lst vs])) = .ok (.p (.tup vs)) (f :: (R ++ [.lst vs])) := by
    wide_line with [hT, l0]
  refine ⟨g, f1, ?_, F1, ?_, ?_⟩
  · unfold f_law_L9
    generalize R ++ [Cell.lst vs] = R1 at *
    generalize b1 dTupleOf = TO at *
    generalize m__law_pick__2 = PK at *
    generalize R.length + 1 = m at *
    wide_line with [wL, lay, tu, e1]
  · simp only [List.mem_cons, List.not_mem_nil, or_false] at hg
    rcases hg with rfl | rfl
    · exact .inl ⟨_, rfl, get_at1⟩
    · exact .inr (.inl rfl)
  · simp only [List.mem_cons, List.not_mem_nil, or_false] at hg
    rcases hg with rfl | rfl <;> exact fun z => by cases z
theorem l10_made {g : P} {u5 : Option D} (hg : SeqG S g (cs.map encC)) (hc : ∀ c ∈ cs, ColOk c ∧ c.beds.length ≤ 1000) (h0 : 1 ≤ cs.length) (h1 : cs.length ≤ 12) : f_law_L10 [x0, some (.cell 0), x2, some (.p (.lst (cs.map encL))), x4, u5, some (.p g), x7, x8, x9, x10, x11, some (.p (.int cs.length)), x13, x14, x15, x16] S = .nx [x0, some (.cell 0), x2, some (.p (.lst (cs.map encL))), x4, u5, some (.p g), some (.p (madeT cs)), x8, x9, x10, x11, some (.p (.int cs.length)), x13, x14, x15, x16] (S ++ [.dead]) := by
  have i2 := init2_ok hg (fun v m => by
    obtain ⟨c, _, rfl⟩ := List.mem_map.mp m
    exact .inl ⟨c, rfl⟩) (free_Cs cs) (by rw [List.length_map]; exact h0) (by rw [List.length_map]; exact h1) (fun v m => by
    obtain ⟨c, _, rfl⟩ := List.mem_map.mp m
    exact isCl_C c)
  have mk := mk2_ok (r := [x0, some (.cell 0), x2, some (.p (.lst (cs.map encL))), x4, u5, some (.p g), x7, x8, x9, x10, x11, some (.p (.int cs.length)), x13, x14, x15, x16]) (i := 6) rfl i2
  have ct := caught_ok (ACT := fun S' => f_law_E10 [x0, some (.cell 0), x2, some (.p (.lst (cs.map encL))), x4, u5, some (.p g), x7, x8, x9, x10, x11, some (.p (.int cs.length)), x13, x14, x15, x16] S') mk (fun c m => (hc c m).2) (by omega)
  have wl : wLam (mcN N__law_caught__2 f__law_caught__2) f_law_E10 [x0, some (.cell 0), x2, some (.p (.lst (cs.map encL))), x4, u5, some (.p g), x7, x8, x9, x10, x11, some (.p (.int cs.length)), x13, x14, x15, x16] S = .ok (.p (madeT cs)) (S ++ [.dead]) := by
    unfold wLam
    rw [ct]
    rfl
  unfold f_law_L10
  generalize wLam _ _ = W at *
  wide_line with [wl]
theorem l10_cols {g : P} {u5 : Option D} (e : m_Section___init____2 [.cell S.length, .p g] (S ++ [.obj "Section" [] []]) = .ex (exCols g) (S ++ [.obj "Section" [] []])) : f_law_L10 [x0, some (.cell 0), x2, some (.p (.lst (cs.map encL))), x4, u5, some (.p g), x7, x8, x9, x10, x11, some (.p (.int cs.length)), x13, x14, x15, x16] S = .nx [x0, some (.cell 0), x2, some (.p (.lst (cs.map encL))), x4, u5, some (.p g), some (.p (colsT g)), x8, x9, x10, x11, some (.p (.int cs.length)), x13, x14, x15, x16] (S ++ [.obj "Section" [] []]) := by
  have mk := mk2_ex (r := [x0, some (.cell 0), x2, some (.p (.lst (cs.map encL))), x4, u5, some (.p g), x7, x8, x9, x10, x11, some (.p (.int cs.length)), x13, x14, x15, x16]) (i := 6) rfl e
  have ct := caught_cols (ACT := fun S' => f_law_E10 [x0, some (.cell 0), x2, some (.p (.lst (cs.map encL))), x4, u5, some (.p g), x7, x8, x9, x10, x11, some (.p (.int cs.length)), x13, x14, x15, x16] S') mk
  have wl : wLam (mcN N__law_caught__2 f__law_caught__2) f_law_E10 [x0, some (.cell 0), x2, some (.p (.lst (cs.map encL))), x4, u5, some (.p g), x7, x8, x9, x10, x11, some (.p (.int cs.length)), x13, x14, x15, x16] S = .ok (.p (colsT g)) (S ++ [.obj "Section" [] []]) := by
    unfold wLam
    rw [ct]
    rfl
  unfold f_law_L10
  generalize wLam _ _ = W at *
  wide_line with [wl]
theorem l11_made {u6 : Option D} (h0 : 1 ≤ cs.length) (h1 : cs.length ≤ 12) : f_law_L11 [x0, some (.cell 0), x2, some (.p (.lst (cs.map encL))), x4, some (.p (.bl false)), u6, some (.p (madeT cs)), x8, x9, x10, x11, some (.p (.int cs.length)), x13, x14, x15, x16] S = .nx [x0, some (.cell 0), x2, some (.p (.lst (cs.map encL))), x4, some (.p (.bl false)), u6, some (.p (madeT cs)), x8, x9, x10, x11, some (.p (.int cs.length)), x13, x14, x15, x16] S := by
  have c1 : (1 : Int) ≤ (cs.length : Int) := by omega
  have c2 : (cs.length : Int) ≤ 12 := by omega
  have ne := dNeP_ok (S := S) (made_same (cs := cs))
  have ne : dNeP [("Column", liftM m_Column___eq__)] (.p (madeT cs)) (.p (.tup [.str (Str.ofString "made"), .lst (cs.map encL)])) S = _ := ne
  unfold f_law_L11
  generalize madeT cs = mt at *
  generalize cs.map encL = L at *
  generalize dNeP _ = NE at *
  wide_line with [c1, c2, ne]
theorem l11_cols {b : Bool} {g : P} (ne : EqRw (EqJ tabC) [.str (Str.ofString "columns"), g, .bl true] [.str (Str.ofString "columns"), g, .bl true]) (h : ¬(1 ≤ cs.length ∧ cs.length ≤ 12 ∧ b = false)) : f_law_L11 [x0, some (.cell 0), x2, some (.p (.lst (cs.map encL))), x4, some (.p (.bl b)), some (.p g), some (.p (colsT g)), x8, x9, x10, x11, some (.p (.int cs.length)), x13, x14, x15, x16] S = .nx [x0, some (.cell 0), x2, some (.p (.lst (cs.map encL))), x4, some (.p (.bl b)), some (.p g), some (.p (colsT g)), x8, x9, x10, x11, some (.p (.int cs.length)), x13, x14, x15, x16] S := by
  have ne := dNeP_ok (S := S) ne
  have ne : dNeP [("Column", liftM m_Column___eq__)] (.p (colsT g)) (.p (.tup [.str (Str.ofString "columns"), g, .bl true])) S = _ := ne
  unfold f_law_L11
  generalize colsT g = ct at *
  generalize cs.map encL = L at *
  generalize dNeP _ = NE at *
  by_cases c1 : (1 : Int) ≤ (cs.length : Int)
  · by_cases c2 : (cs.length : Int) ≤ 12
    · have hb : b = true := by
        cases b with
        | true => rfl
        | false => exact absurd ⟨by omega, by omega, rfl⟩ h
      subst hb
      wide_line with [c1, c2, ne]
    · wide_line with [c1, c2, ne]
  · wide_line with [c1, ne]
theorem l13_cols {g : P} {u5 u6 : Option D} : f_law_L13 [x0, some (.cell 0), x2, some (.p (.lst (cs.map encL))), x4, u5, u6, some (.p (colsT g)), x8, x9, x10, x11, some (.p (.int cs.length)), x13, x14, x15, x16] S = .nx [x0, some (.cell 0), x2, some (.p (.lst (cs.map encL))), x4, u5, u6, some (.p (colsT g)), x8, x9, x10, x11, some (.p (.int cs.length)), x13, x14, x15, x16] S := by
  have ix : dIx (.p (colsT g)) (.p (.int 0)) S = .ok (.p (.str (Str.ofString "columns"))) S := rfl
  have q : dEqv false (.p (.str (Str.ofString "columns"))) (.p (.str (Str.ofString "made"))) S = .ok (.p (.bl false)) S := by
    rw [eq_P (by decide +kernel) (by decide +kernel)]
    rfl
  unfold f_law_L13
  generalize colsT g = ct at *
  generalize f_law_L14 = g1 at *
  wide_line with [ix, q]
theorem l13_made {u5 u6 : Option D} (hc : ∀ c ∈ cs, ColOk c ∧ c.beds.length ≤ 1000) (h0 : 1 ≤ cs.length) (h1 : cs.length ≤ 12) {m : Nat} (hm : S[m]? = some (.lst (cs.map encC))) :
    ∃ x, f_law_L13 [x0, some (.cell 0), x2, some (.p (.lst (cs.map encL))), some (.cell m), u5, u6, some (.p (madeT cs)), x8, x9, x10, x11, some (.p (.int cs.length)), x13, x14, x15, x16] S = .nx [x0, some (.cell 0), x2, some (.p (.lst (cs.map encL))), some (.cell m), u5, u6, some (.p (madeT cs)), x8, x9, x10, x11, some (.p (.int cs.length)), some (.p (encS cs)), x14, x15, x16] (S.set m x) := by
  have ix : dIx (.p (madeT cs)) (.p (.int 0)) S = .ok (.p (.str (Str.ofString "made"))) S := rfl
  have q : dEqv false (.p (.str (Str.ofString "made"))) (.p (.str (Str.ofString "made"))) S = .ok (.p (.bl true)) S := by
    rw [eq_P (by decide +kernel) (by decide +kernel)]
    rfl
  obtain ⟨c0, cr, hcs⟩ : ∃ c0 cr, cs = c0 :: cr := by
    cases cs with
    | nil => simp at h0
    | cons a l => exact ⟨a, l, rfl⟩
  have mlt : m < S.length := (List.getElem?_eq_some_iff.mp hm).1
  have l14 : f_law_L14 [x0, some (.cell 0), x2, some (.p (.lst (cs.map encL))), some (.cell m), u5, u6, some (.p (madeT cs)), x8, x9, x10, x11, some (.p (.int cs.length)), x13, x14, x15, x16] S = .nx [x0, some (.cell 0), x2, some (.p (.lst (cs.map encL))), some (.cell m), u5, u6, some (.p (madeT cs)), x8, x9, x10, x11, some (.p (.int cs.length)), some (.p (encS cs)), x14, x15, x16] S := by
    have mk := mkS (r := [x0, some (.cell 0), x2, some (.p (.lst (cs.map encL))), some (.cell m), u5, u6, some (.p (madeT cs)), x8, x9, x10, x11, some (.p (.int cs.length)), x13, x14, x15, x16]) h0 h1 hm (fk := wCons (wVar 4) wNil) rfl
    unfold f_law_L14
    generalize wMakeL _ _ _ _ _ _ _ = W at *
    generalize madeT cs = mt at *
    wide_line with [mk]
  have hx0 : (cs.map encC)[0]? = some (encC c0) := by rw [hcs]; rfl
  have l15 : f_law_L15 [x0, some (.cell 0), x2, some (.p (.lst (cs.map encL))), some (.cell m), u5, u6, some (.p (madeT cs)), x8, x9, x10, x11, some (.p (.int cs.length)), some (.p (encS cs)), x14, x15, x16] S = .nx [x0, some (.cell 0), x2, some (.p (.lst (cs.map encL))), some (.cell m), u5, u6, some (.p (madeT cs)), x8, x9, x10, x11, some (.p (.int cs.length)), some (.p (encS cs)), x14, x15, x16] (S.set m (.lst (cs.map encC ++ [encC c0]))) := by
    have ai : atI (cs.map encC) 0 = some (encC c0) := atI_natP (i := 0) hx0
    have l0 : (cs.map encC).length < 16777216 := by rw [List.length_map]; omega
    unfold f_law_L15
    generalize madeT cs = mt at *
    generalize encS cs = es at *
    generalize cs.map encC = L at *
    generalize encC c0 = e0 at *
    wide_line using [hm, ai, l0]
  have g2 : (S.set m (.lst (cs.map encC ++ [encC c0])))[m]? = some (.lst (cs.map encC ++ [encC c0])) := List.getElem?_set_self mlt
  have l16 : f_law_L16 [x0, some (.cell 0), x2, some (.p (.lst (cs.map encL))), some (.cell m), u5, u6, some (.p (madeT cs)), x8, x9, x10, x11, some (.p (.int cs.length)), some (.p (encS cs)), x14, x15, x16] (S.set m (.lst (cs.map encC ++ [encC c0]))) = .nx [x0, some (.cell 0), x2, some (.p (.lst (cs.map encL))), some (.cell m), u5, u6, some (.p (madeT cs)), x8, x9, x10, x11, some (.p (.int cs.length)), some (.p (encS cs)), x14, x15, x16] (S.set m (.lst ((cs.map encC ++ [encC c0]).set 0 (encC (flatC 99))))) := by
    have mk := mk99 (r := [x0, some (.cell 0), x2, some (.p (.lst (cs.map encL))), some (.cell m), u5, u6, some (.p (madeT cs)), x8, x9, x10, x11, some (.p (.int cs.length)), some (.p (encS cs)), x14, x15, x16]) (S := S.set m (.lst (cs.map encC ++ [encC c0])))
    have pt : dLPut (.cell m) (.p (.int 0)) (.p (encC (flatC 99))) (S.set m (.lst (cs.map encC ++ [encC c0]))) = .ok () (S.set m (.lst ((cs.map encC ++ [encC c0]).set 0 (encC (flatC 99))))) := by
      have ix0 : ixN (cs.map encC ++ [encC c0]).length (0 : Int) = some 0 := ixN_nat (j := 0) (by simp)
      unfold dLPut
      simp only [g2, ix0, List.set_set]
    unfold f_law_L16
    generalize wMakeL _ _ _ _ _ _ _ = W at *
    generalize madeT cs = mt at *
    generalize encS cs = es at *
    generalize S.set m (.lst (cs.map encC ++ [encC c0])) = S1 at *
    generalize S.set m (.lst ((cs.map encC ++ [encC c0]).set 0 (encC (flatC 99)))) = S2 at *
    generalize encC (flatC 99) = e9 at *
    wide_line with [mk, pt]
  generalize hX : Cell.lst ((cs.map encC ++ [encC c0]).set 0 (encC (flatC 99))) = X at *
  have ac := at_columns (cs := cs) (S := S.set m X)
  have lc : lcF (.nm 16) wYes f_law_E17 [x0, some (.cell 0), x2, some (.p (.lst (cs.map encL))), some (.cell m), u5, u6, some (.p (madeT cs)), x8, x9, x10, x11, some (.p (.int cs.length)), some (.p (encS cs)), x14, x15, none] (cs.map fun c => D.p (encC c)) 0 (S.set m X) = .ok (cs.map encL) (S.set m X) :=
    lcF_mapM (F := fun c => D.p (encC c)) encL (fun c mc => by
      have t := told2 (hc c mc).2 (S.set m X)
      refine ⟨_, rfl, ?_⟩
      unfold f_law_E17
      generalize liftM m__law_told_column = LT at *
      wide_line with [t]) (by rw [sz]; omega)
  have fL : fine 64 (.lst (cs.map encL)) = true := by
    show fines 63 (cs.map encL) = true
    exact finesL (n := 59) fun c mc => (hc c mc).1
  have nl := ne_same (S := S.set m X) fL
  have l17 : f_law_L17 [x0, some (.cell 0), x2, some (.p (.lst (cs.map encL))), some (.cell m), u5, u6, some (.p (madeT cs)), x8, x9, x10, x11, some (.p (.int cs.length)), some (.p (encS cs)), x14, x15, x16] (S.set m X) = .nx [x0, some (.cell 0), x2, some (.p (.lst (cs.map encL))), some (.cell m), u5, u6, some (.p (madeT cs)), x8, x9, x10, x11, some (.p (.int cs.length)), some (.p (encS cs)), x14, x15, x16] (S.set m X) := by
    have w1 : wLC (wIt (wAttr cs_columns (Str.ofString "columns") (wVar 13))) (.nm 16) wYes f_law_E17 [16] [x0, some (.cell 0), x2, some (.p (.lst (cs.map encL))), some (.cell m), u5, u6, some (.p (madeT cs)), x8, x9, x10, x11, some (.p (.int cs.length)), some (.p (encS cs)), x14, x15, x16] (S.set m X) = .ok (.p (.lst (cs.map encL))) (S.set m X) := by
      generalize f_law_E17 = FE at *
      generalize madeT cs = mt at *
      generalize encS cs = es at *
      wide_line with [ac, map_encC_p, lc]
    unfold f_law_L17
    generalize wLC _ _ _ _ _ = W at *
    generalize madeT cs = mt at *
    generalize encS cs = es at *
    generalize cs.map encL = L at *
    wide_line with [w1, nl]
  refine ⟨X, ?_⟩
  unfold f_law_L13
  have tst : wTest (wBin (dEqv false) (wBin dIx (wVar 7) (wC (.p (.int 0)))) (wC (.p (.str (Str.ofString "made"))))) [x0, some (.cell 0), x2, some (.p (.lst (cs.map encL))), some (.cell m), u5, u6, some (.p (madeT cs)), x8, x9, x10, x11, some (.p (.int cs.length)), x13, x14, x15, x16] S = .ok true S := by
    generalize madeT cs = mt at *
    wide_line with [ix, q]
  rw [iT tst, if_pos (by rfl), wSeq, l14, seq_nx, wSeq, l15, seq_nx, wSeq, l16, seq_nx, l17]
theorem l19_ok {u4 u7 u13 : Option D} (hF : Fd (k + 40) f) : ∃ g f', f_law_L19 [x0, some (.cell 0), x2, some (.p (.lst (cs.map encL))), u4, x5, x6, u7, x8, x9, x10, x11, some (.p (.int cs.length)), u13, x14, x15, x16] (f :: R) = .nx [x0, some (.cell 0), x2, some (.p (.lst (cs.map encL))), u4, x5, x6, u7, some (.p g), x9, x10, x11, some (.p (.int cs.length)), u13, x14, x15, x16] (f' :: R) ∧ Fd k f' ∧ anyS 2 g := by
  obtain ⟨v, f1, e1, F1, hv⟩ := lift_drw (R := R) (ps := [.int (2 : Nat)]) (anyS_ok (d := 2) (by decide)) rfl (hF.le (show k + anyC 2 ≤ k + 40 by show k + 26 ≤ k + 40; omega))
  simp only [List.map_cons, List.map_nil] at e1
  have e1 : liftM (m__law_any 3) [.cell 0, .p (.int 2)] (f :: R) = _ := e1
  refine ⟨v, f1, ?_, F1, hv⟩
  unfold f_law_L19
  generalize liftM (m__law_any 3) = LA at *
  wide_line with [e1]
theorem l20_ok {g : P} (hg : anyS 2 g) {u4 u7 u13 : Option D} : f_law_L20 [x0, some (.cell 0), x2, some (.p (.lst (cs.map encL))), u4, x5, x6, u7, some (.p g), x9, x10, x11, some (.p (.int cs.length)), u13, x14, x15, x16] S = .nx [x0, some (.cell 0), x2, some (.p (.lst (cs.map encL))), u4, x5, x6, u7, some (.p g), x9, x10, x11, some (.p (.int cs.length)), u13, x14, x15, x16] (S ++ [.obj "Section" [] []]) := by
  have mk := mk2_ex (r := [x0, some (.cell 0), x2, some (.p (.lst (cs.map encL))), u4, x5, x6, u7, some (.p g), x9, x10, x11, some (.p (.int cs.length)), u13, x14, x15, x16]) (i := 8) rfl (init2_any (S := S) hg.1.1 hg.free)
  have ct := caught_cols (ACT := fun S' => f_law_E20 [x0, some (.cell 0), x2, some (.p (.lst (cs.map encL))), u4, x5, x6, u7, some (.p g), x9, x10, x11, some (.p (.int cs.length)), u13, x14, x15, x16] S') mk
  have wl : wLam (mcN N__law_caught__2 f__law_caught__2) f_law_E20 [x0, some (.cell 0), x2, some (.p (.lst (cs.map encL))), u4, x5, x6, u7, some (.p g), x9, x10, x11, some (.p (.int cs.length)), u13, x14, x15, x16] S = .ok (.p (colsT g)) (S ++ [.obj "Section" [] []]) := by
    unfold wLam
    rw [ct]
    rfl
  have ne := dNeP_ok (S := S ++ [.obj "Section" [] []]) (any_same hg (by decide))
  have ne : dNeP [("Column", liftM m_Column___eq__)] (.p (colsT g)) (.p (.tup [.str (Str.ofString "columns"), g, .bl true])) (S ++ [.obj "Section" [] []]) = _ := ne
  unfold f_law_L20
  generalize wLam _ _ = W at *
  generalize colsT g = ct at *
  generalize dNeP _ = NE at *
  generalize S ++ [Cell.obj "Section" [] []] = S1 at *
  wide_line with [wl, ne]
theorem l22_ok {u4 u7 u8 u13 : Option D} (hF : Fd (k + 40) f) : ∃ g f', f_law_L22 [x0, some (.cell 0), x2, some (.p (.lst (cs.map encL))), u4, x5, x6, u7, u8, x9, x10, x11, some (.p (.int cs.length)), u13, x14, x15, x16] (f :: R) = .nx [x0, some (.cell 0), x2, some (.p (.lst (cs.map encL))), u4, x5, x6, u7, u8, some (.p g), x10, x11, some (.p (.int cs.length)), u13, x14, x15, x16] (f' :: R) ∧ Fd k f' ∧ tame g ∧ freeP g = true ∧ rp 40 20000 g := by
  obtain ⟨_, f1, e1, F1, i, rfl, i0, i1⟩ := lift_drw (R := R) (ps := [.int 16]) (draw_ok (many := 16) (by decide) (by decide)) rfl (hF.le (show k + 20 + 1 ≤ k + 40 by omega))
  obtain ⟨v, f2, e2, F2, hv⟩ := lift_drw (R := R) (ps := [.int (1 : Nat)]) (anyS_ok (d := 1) (by decide)) rfl (F1.le (show k + 1 + anyC 1 ≤ k + 20 by show k + 1 + 8 ≤ k + 20; omega))
  simp only [List.map_cons, List.map_nil] at e1 e2
  have e2 : liftM (m__law_any 3) [.cell 0, .p (.int 1)] (f1 :: R) = _ := e2
  obtain ⟨g, f3, e3, F3, hg⟩ := pickL_ok (xs := [.int (i - 1), v]) (by simp) (by simp) (R := R) F2
  have ri : rp 40 20000 (.int (i - 1)) := (rp_int (by omega)).le (by decide) (by decide)
  refine ⟨g, f3, ?_, F3, ?_⟩
  · unfold f_law_L22
    generalize liftM (m__law_any 3) = LA at *
    generalize liftM m__law_draw = LM at *
    generalize m__law_pick__2 = PK at *
    wide_line with [e1, e2, e3]
  · simp only [List.mem_cons, List.not_mem_nil, or_false] at hg
    rcases hg with rfl | rfl
    · exact ⟨by simp only [tame], rfl, ri⟩
    · exact ⟨hv.1.1, hv.free, hv.1.2.le (by decide) (by decide)⟩
def dueW (g : P) : P := .tup [.str (Str.ofString "width"), .str (tx g), .bl true]
theorem l23_ok {g : P} (rg : rp 40 20000 g) {u4 u7 u8 u13 : Option D} : f_law_L23 [x0, some (.cell 0), x2, some (.p (.lst (cs.map encL))), u4, x5, x6, u7, u8, some (.p g), x10, x11, some (.p (.int cs.length)), u13, x14, x15, x16] S = .nx [x0, some (.cell 0), x2, some (.p (.lst (cs.map encL))), u4, x5, x6, u7, u8, some (.p g), some (.p (dueW g)), x11, some (.p (.int cs.length)), u13, x14, x15, x16] S := by
  have rr := repr_tx rg (by decide) (by decide) S
  unfold f_law_L23 dueW
  wide_line with [rr]
def dueF (g : P) : P := match wid g with
  | some n => madeT (List.replicate n (flatC 0))
  | none => dueW g
theorem l24_ok {g : P} (tg : tame g) (fg : freeP g = true) {u4 u7 u8 u13 : Option D} : f_law_L24 [x0, some (.cell 0), x2, some (.p (.lst (cs.map encL))), u4, x5, x6, u7, u8, some (.p g), some (.p (dueW g)), x11, some (.p (.int cs.length)), u13, x14, x15, x16] S = .nx [x0, some (.cell 0), x2, some (.p (.lst (cs.map encL))), u4, x5, x6, u7, u8, some (.p g), some (.p (dueF g)), x11, some (.p (.int cs.length)), u13, x14, x15, x16] S := by
  have ii := int2 tg fg S
  unfold dueF
  cases hw : wid g with
  | none =>
    dsimp only
    generalize dueW g = dw at *
    unfold f_law_L24
    generalize f_law_L25 = g25 at *
    generalize liftM m__law_is_int = LI at *
    cases g with
    | int i =>
      by_cases c1 : (1 : Int) ≤ i
      · by_cases c2 : i ≤ 12
        · unfold wid at hw
          dsimp only at hw
          rw [if_pos c1, if_pos c2] at hw
          cases hw
        · wide_line with [ii, isInt, c1, c2]
      · wide_line with [ii, isInt, c1]
    | _ => wide_line with [ii, isInt]
  | some n =>
    obtain ⟨rfl, n0, n1⟩ := wid_some hw
    have c1 : (1 : Int) ≤ (n : Int) := by omega
    have c2 : (n : Int) ≤ 12 := by omega
    have h62 := in62_of (i := (n : Int)) (by omega) (by omega)
    have lc := lcF_mapM (F := fun i : Nat => D.p (.int (0 + (i : Int)))) (T := .nm 14) (fe := f_law_E25) (r0 := [x0, some (.cell 0), x2, some (.p (.lst (cs.map encL))), u4, x5, x6, u7, u8, some (.p (.int (n : Nat))), some (.p (dueW (.int (n : Nat)))), x11, some (.p (.int cs.length)), u13, none, x15, x16]) (S := S) (fun _ : Nat => encL (flatC 0)) (xs := List.range n) (n := 0) (fun i _ => by
      refine ⟨_, rfl, ?_⟩
      unfold f_law_E25
      generalize dueW (.int (n : Nat)) = dw at *
      wide_line
      rfl) (by rw [sz, List.length_range]; omega)
    have rg : (List.range n).map (fun i : Nat => D.p (.int (0 + (i : Int)))) = rngD 0 (n : Int).toNat := rfl
    rw [rg, rngD_rep] at lc
    dsimp only
    unfold f_law_L24 f_law_L25 madeT
    rw [List.map_replicate]
    generalize dueW (.int (n : Nat)) = dw at *
    generalize f_law_E25 = FE at *
    generalize liftM m__law_is_int = LI at *
    wide_line with [ii, isInt, c1, c2, h62, lc]
theorem l26_ok {g : P} (tg : tame g) (fg : freeP g = true) (rg : rp 40 20000 g) {u4 u7 u8 u13 : Option D} : f_law_L26 [x0, some (.cell 0), x2, some (.p (.lst (cs.map encL))), u4, x5, x6, u7, u8, some (.p g), some (.p (dueF g)), x11, some (.p (.int cs.length)), u13, x14, x15, x16] S = .nx [x0, some (.cell 0), x2, some (.p (.lst (cs.map encL))), u4, x5, x6, u7, u8, some (.p g), some (.p (dueF g)), x11, some (.p (.int cs.length)), u13, x14, x15, x16] S := by
  have lf := lent_flat (S := S) (r := [x0, some (.cell 0), x2, some (.p (.lst (cs.map encL))), u4, x5, x6, u7, u8, some (.p g), some (.p (dueF g)), x11, some (.p (.int cs.length)), u13, x14, x15, x16]) (i := 9) tg fg rfl rfl
  have wl : wLam (mcN N__law_caught__2 f__law_caught__2) f_law_E26 [x0, some (.cell 0), x2, some (.p (.lst (cs.map encL))), u4, x5, x6, u7, u8, some (.p g), some (.p (dueF g)), x11, some (.p (.int cs.length)), u13, x14, x15, x16] S = .ok (.p (dueF g)) S := by
    have d0 : dueF g = match wid g with
      | some n => madeT (List.replicate n (flatC 0))
      | none => dueW g := rfl
    unfold wLam
    cases hw : wid g with
    | none =>
      rw [hw] at lf d0
      have ct := caught_width (ACT := fun S' => f_law_E26 [x0, some (.cell 0), x2, some (.p (.lst (cs.map encL))), u4, x5, x6, u7, u8, some (.p g), some (.p (dueF g)), x11, some (.p (.int cs.length)), u13, x14, x15, x16] S') lf rg (by decide) (by decide)
      rw [ct]
      rw [d0]
      rfl
    | some n =>
      rw [hw] at lf d0
      obtain ⟨_, n0, n1⟩ := wid_some hw
      have ct := caught_ok (ACT := fun S' => f_law_E26 [x0, some (.cell 0), x2, some (.p (.lst (cs.map encL))), u4, x5, x6, u7, u8, some (.p g), some (.p (dueF g)), x11, some (.p (.int cs.length)), u13, x14, x15, x16] S') lf (fun c m => by rw [List.eq_of_mem_replicate m]; simp [flatC]) (by rw [List.length_replicate]; omega)
      rw [ct]
      rw [d0]
      rfl
  have fd : fine 64 (dueF g) = true := by
    unfold dueF
    cases wid g with
    | none =>
      have := ascS_fine (n := 63) (tx_asc rg)
      show (fine 63 (.str (Str.ofString "width")) && (fine 63 (.str (tx g)) && (fine 63 (.bl true) && fines 63 []))) = true
      rw [this]
      decide +kernel
    | some n =>
      have := finesL (cs := List.replicate n (flatC 0)) (n := 58) fun c m => by rw [List.eq_of_mem_replicate m]; exact flatC_ok 0
      show (fine 63 (.str (Str.ofString "made")) && (fines 62 ((List.replicate n (flatC 0)).map encL) && fines 63 [])) = true
      rw [this]
      decide +kernel
  have ne := ne_same (S := S) fd
  unfold f_law_L26
  generalize wLam _ _ = W at *
  generalize dueF g = df at *
  wide_line with [wl, ne]
end
section
variable {cs : List Col} {f : Cell} {R : Store} {vs : List P} {g : P} {b : Bool} {K : FS} {x0 x2 x4 x5 x6 x7 x8 x9 x10 x11 x13 x14 x15 x16 : Option D}
theorem mid (hc : ∀ c ∈ cs, ColOk c ∧ c.beds.length ≤ 1000) (hl : vs.length = cs.length) (hn : cs.length ≤ 14) (hv : ∀ v ∈ vs, okV v) (hb : if b = true then ∃ v ∈ vs, isCl v = false else vs = cs.map encC) (hg : SeqG (f :: (R ++ [Cell.lst vs])) g vs) (hgl : g = .lst vs → False) :
    ∃ R' u7 u13, wSeq f_law_L10 (wSeq f_law_L11 (wSeq f_law_L13 K)) [x0, some (.cell 0), x2, some (.p (.lst (cs.map encL))), some (.cell (R.length + 1)), some (.p (.bl b)), some (.p g), x7, x8, x9, x10, x11, some (.p (.int cs.length)), x13, x14, x15, x16] (f :: (R ++ [Cell.lst vs])) = K [x0, some (.cell 0), x2, some (.p (.lst (cs.map encL))), some (.cell (R.length + 1)), some (.p (.bl b)), some (.p g), u7, x8, x9, x10, x11, some (.p (.int cs.length)), u13, x14, x15, x16] (f :: R') := by
  by_cases h : 1 ≤ cs.length ∧ cs.length ≤ 12 ∧ b = false
  · obtain ⟨h0, h1, rfl⟩ := h
    rw [if_neg (by simp)] at hb
    subst hb
    have hm : (f :: (R ++ [Cell.lst (cs.map encC)]) ++ [Cell.dead])[R.length + 1]? = some (.lst (cs.map encC)) := by
      show (R ++ [Cell.lst (cs.map encC)] ++ [Cell.dead])[R.length]? = _
      simp
    generalize hS : f :: (R ++ [Cell.lst (cs.map encC)]) = S at *
    generalize hT : S ++ [Cell.dead] = T at *
    have h10 := l10_made (S := S) (cs := cs) (g := g) (x0 := x0) (x2 := x2) (x4 := some (.cell (R.length + 1))) (x7 := x7) (x8 := x8) (x9 := x9) (x10 := x10) (x11 := x11) (x13 := x13) (x14 := x14) (x15 := x15) (x16 := x16) (u5 := some (.p (.bl false))) hg hc h0 h1
    rw [hT] at h10
    have h11 := l11_made (S := T) (cs := cs) (x0 := x0) (x2 := x2) (x4 := some (.cell (R.length + 1))) (x8 := x8) (x9 := x9) (x10 := x10) (x11 := x11) (x13 := x13) (x14 := x14) (x15 := x15) (x16 := x16) (u6 := some (.p g)) h0 h1
    obtain ⟨x, h13⟩ := l13_made (S := T) (cs := cs) (m := R.length + 1) (x0 := x0) (x2 := x2) (x8 := x8) (x9 := x9) (x10 := x10) (x11 := x11) (x13 := x13) (x14 := x14) (x15 := x15) (x16 := x16) (u5 := some (.p (.bl false))) (u6 := some (.p g)) hc h0 h1 hm
    refine ⟨(R ++ [Cell.lst (cs.map encC)] ++ [Cell.dead]).set R.length x, some (.p (madeT cs)), some (.p (encS cs)), ?_⟩
    rw [wSeq, h10, seq_nx, wSeq, h11, seq_nx, wSeq, h13, seq_nx]
    subst hT
    subst hS
    rfl
  · have hi : ∀ v ∈ vs, okItem v := fun v m => (hv v m).1
    have hf : freePs vs = true := free_all.mpr fun v m => (hv v m).2.1
    generalize hS : f :: (R ++ [Cell.lst vs]) = S at *
    have e : m_Section___init____2 [.cell S.length, .p g] (S ++ [Cell.obj "Section" [] []]) = .ex (exCols g) (S ++ [Cell.obj "Section" [] []]) := by
      by_cases hr : 1 ≤ vs.length ∧ vs.length ≤ 12
      · have hb1 : b = true := by
          cases b with
          | true => rfl
          | false => exact absurd ⟨by omega, by omega, rfl⟩ h
        rw [if_pos hb1] at hb
        exact init2_bad hg hi hf hr.1 hr.2 hb
      · exact init2_len hg (by omega) hr
    generalize hT : S ++ [Cell.obj "Section" [] []] = T at *
    have h10 := l10_cols (S := S) (cs := cs) (g := g) (x0 := x0) (x2 := x2) (x4 := some (.cell (R.length + 1))) (x7 := x7) (x8 := x8) (x9 := x9) (x10 := x10) (x11 := x11) (x13 := x13) (x14 := x14) (x15 := x15) (x16 := x16) (u5 := some (.p (.bl b))) (by rw [hT]; exact e)
    rw [hT] at h10
    have h11 := l11_cols (S := T) (cs := cs) (b := b) (g := g) (x0 := x0) (x2 := x2) (x4 := some (.cell (R.length + 1))) (x8 := x8) (x9 := x9) (x10 := x10) (x11 := x11) (x13 := x13) (x14 := x14) (x15 := x15) (x16 := x16) (cols_same hg hv hgl) h
    have h13 := l13_cols (S := T) (cs := cs) (g := g) (x0 := x0) (x2 := x2) (x4 := some (.cell (R.length + 1))) (x8 := x8) (x9 := x9) (x10 := x10) (x11 := x11) (x13 := x13) (x14 := x14) (x15 := x15) (x16 := x16) (u5 := some (.p (.bl b))) (u6 := some (.p g))
    refine ⟨R ++ [Cell.lst vs] ++ [Cell.obj "Section" [] []], some (.p (colsT g)), x13, ?_⟩
    rw [wSeq, h10, seq_nx, wSeq, h11, seq_nx, wSeq, h13, seq_nx]
    subst hT
    subst hS
    rfl
end
section
variable {f : Cell} {R : Store} {k : Nat} {x0 x2 x3 x4 x5 x6 x7 x8 x9 x10 x11 x12 x13 x14 x15 x16 : Option D}
theorem law_turn (hF : Fd (k + 1400) f) : ∃ f' R' r', f_law_B2 [x0, some (.cell 0), x2, x3, x4, x5, x6, x7, x8, x9, x10, x11, x12, x13, x14, x15, x16] (f :: R) = .nx r' (f' :: R') ∧ Fd k f' ∧ ∃ y3 y4 y5 y6 y7 y8 y9 y10 y11 y12 y13 y14 y15 y16, r' = [x0, some (.cell 0), x2, y3, y4, y5, y6, y7, y8, y9, y10, y11, y12, y13, y14, y15, y16] := by
  unfold f_law_B2
  obtain ⟨ps, n, f1, h3, F1, p0, p1, hp, hn⟩ := l3_ok (R := R) (k := k + 1360) (x0 := x0) (x2 := x2) (x3 := x3) (x4 := x4) (x5 := x5) (x6 := x6) (x7 := x7) (x8 := x8) (x9 := x9) (x10 := x10) (x11 := x11) (x12 := x12) (x13 := x13) (x14 := x14) (x15 := x15) (x16 := x16) (hF.le (by omega))
  obtain ⟨cs, f2, h4, F2, rfl, hc⟩ := l4_ok (R := R) (k := k + 226) (x0 := x0) (x2 := x2) (x3 := x3) (x4 := x4) (x5 := x5) (x6 := x6) (x7 := x7) (x8 := x8) (x9 := x9) (x10 := x10) (x13 := x13) (x14 := x14) (x15 := x15) (x16 := x16) (F1.le (by omega)) p0 p1 hp hn
  have h5 := l5_ok (S := f2 :: R) (cs := cs) (x0 := x0) (x2 := x2) (x4 := x4) (x5 := x5) (x6 := x6) (x7 := x7) (x8 := x8) (x9 := x9) (x10 := x10) (x11 := some (.p (.lst ps))) (x13 := x13) (x14 := x14) (x15 := x15) (x16 := x16) hc hn
  rw [show (f2 :: R).length = R.length + 1 from rfl, List.cons_append] at h5
  obtain ⟨b, f3, h6, F3, hb⟩ := l6_ok (cs := cs) (R := R ++ [Cell.lst (cs.map encC)]) (k := k + 225) (x0 := x0) (x2 := x2) (x4 := some (.cell (R.length + 1))) (x5 := x5) (x6 := x6) (x7 := x7) (x8 := x8) (x9 := x9) (x10 := x10) (x11 := some (.p (.lst ps))) (x13 := x13) (x14 := x14) (x15 := x15) (x16 := x16) (F2.le (by omega))
  obtain ⟨vs, f4, h7, F4, hl, hv, hk⟩ := l7_ok (cs := cs) (R := R) (k := k + 185) (b := b) (x0 := x0) (x2 := x2) (x6 := x6) (x7 := x7) (x8 := x8) (x9 := x9) (x10 := x10) (x11 := some (.p (.lst ps))) (x13 := x13) (x14 := x14) (x15 := x15) (x16 := x16) (F3.le (by omega)) hc hn hb
  obtain ⟨g, f5, h9, F5, hg, hgl⟩ := l9_ok (cs := cs) (R := R) (k := k + 184) (vs := vs) (x0 := x0) (x2 := x2) (x6 := x6) (x7 := x7) (x8 := x8) (x9 := x9) (x10 := x10) (x11 := some (.p (.lst ps))) (x13 := x13) (x14 := x14) (x15 := x15) (x16 := x16) (u5 := some (.p (.bl b))) (F4.le (by omega)) (by omega)
  obtain ⟨R5, u7, u13, hm⟩ := mid (cs := cs) (f := f5) (R := R) (vs := vs) (g := g) (b := b) (K := wSeq f_law_L19 (wSeq f_law_L20 (wSeq f_law_L22 (wSeq f_law_L23 (wSeq f_law_L24 f_law_L26))))) (x0 := x0) (x2 := x2) (x7 := x7) (x8 := x8) (x9 := x9) (x10 := x10) (x11 := some (.p (.lst ps))) (x13 := x13) (x14 := x14) (x15 := x15) (x16 := x16) hc hl hn hv hk hg hgl
  obtain ⟨t, f6, h19, F6, ht⟩ := l19_ok (cs := cs) (R := R5) (k := k + 144) (x0 := x0) (x2 := x2) (x5 := some (.p (.bl b))) (x6 := some (.p g)) (x8 := x8) (x9 := x9) (x10 := x10) (x11 := some (.p (.lst ps))) (x14 := x14) (x15 := x15) (x16 := x16) (u4 := some (.cell (R.length + 1))) (u7 := u7) (u13 := u13) (F5.le (by omega))
  have h20 := l20_ok (S := f6 :: R5) (cs := cs) (g := t) (x0 := x0) (x2 := x2) (x5 := some (.p (.bl b))) (x6 := some (.p g)) (x9 := x9) (x10 := x10) (x11 := some (.p (.lst ps))) (x14 := x14) (x15 := x15) (x16 := x16) (u4 := some (.cell (R.length + 1))) (u7 := u7) (u13 := u13) ht
  obtain ⟨w, f7, h22, F7, tw, fw, rw⟩ := l22_ok (cs := cs) (R := R5 ++ [Cell.obj "Section" [] []]) (k := k + 104) (x0 := x0) (x2 := x2) (x5 := some (.p (.bl b))) (x6 := some (.p g)) (x9 := x9) (x10 := x10) (x11 := some (.p (.lst ps))) (x14 := x14) (x15 := x15) (x16 := x16) (u4 := some (.cell (R.length + 1))) (u7 := u7) (u8 := some (.p t)) (u13 := u13) (F6.le (by omega))
  have h23 := l23_ok (S := f7 :: (R5 ++ [Cell.obj "Section" [] []])) (cs := cs) (g := w) (x0 := x0) (x2 := x2) (x5 := some (.p (.bl b))) (x6 := some (.p g)) (x10 := x10) (x11 := some (.p (.lst ps))) (x14 := x14) (x15 := x15) (x16 := x16) (u4 := some (.cell (R.length + 1))) (u7 := u7) (u8 := some (.p t)) (u13 := u13) rw
  have h24 := l24_ok (S := f7 :: (R5 ++ [Cell.obj "Section" [] []])) (cs := cs) (g := w) (x0 := x0) (x2 := x2) (x5 := some (.p (.bl b))) (x6 := some (.p g)) (x11 := some (.p (.lst ps))) (x14 := x14) (x15 := x15) (x16 := x16) (u4 := some (.cell (R.length + 1))) (u7 := u7) (u8 := some (.p t)) (u13 := u13) tw fw
  have h26 := l26_ok (S := f7 :: (R5 ++ [Cell.obj "Section" [] []])) (cs := cs) (g := w) (x0 := x0) (x2 := x2) (x5 := some (.p (.bl b))) (x6 := some (.p g)) (x11 := some (.p (.lst ps))) (x14 := x14) (x15 := x15) (x16 := x16) (u4 := some (.cell (R.length + 1))) (u7 := u7) (u8 := some (.p t)) (u13 := u13) tw fw rw
  rw [wSeq, h3, seq_nx, wSeq, h4, seq_nx, wSeq, h5, seq_nx, wSeq, h6, seq_nx, wSeq, h7, seq_nx, wSeq, h9, seq_nx, hm, wSeq, h19, seq_nx, wSeq, h20, seq_nx, wSeq]
  rw [List.cons_append, h22, seq_nx, wSeq, h23, seq_nx, wSeq, h24, seq_nx, h26]
  exact ⟨f7, _, _, rfl, F7.le (by omega), _, _, _, _, _, _, _, _, _, _, _, _, _, _, rfl⟩
end
noncomputable abbrev E28 : FE := wAndV (wBin (dEqv false) (wC (.p (.int 12))) (wC (.p (.int 12)))) (wBin (dEqO false "Section" m_Section___eq__) (wClsMK m_Section_flat gbdm_Section_flat_width 1 (wCons (wC (.p (.int 3))) wNil)) (wMake "Section" m_Section___init__ 1 0 gbd_Section_1 (wCons (wDisp .lst (wCons (wMake "Column" m_Column___init__ 0 0 gbd_Column_0 wNil wNil) (wCons (wMake "Column" m_Column___init__ 0 0 gbd_Column_0 wNil wNil) (wCons (wMake "Column" m_Column___init__ 0 0 gbd_Column_0 wNil wNil) wNil)))) wNil) wNil))
theorem l28_ok {r : Rho} {S : Store} {i : Int} (hr : r[2]? = some (some (.p (.int i)))) : f_law_L28 r S = .rt (.p (.bl true)) S := by
  have fl := flat_eq (v := .int (3 : Nat)) (by simp only [tame]) []
  have w3 : wid (.int (3 : Nat)) = some 3 := wid_nat (by decide) (by decide)
  rw [w3] at fl
  dsimp only at fl
  have ck := col_make (c := flatC 0) (flatC_ok 0) (by simp [flatC]) (.inl rfl) []
  have ck : mkF (m_Column___init__ [.cell 0, .p (.int 0), .p (.tup []), .p .non, .p .non] [.obj "Column" [] []]) 0 = .ok (.p (encC (flatC 0))) [] := ck
  have sk := sec_make (cs := List.replicate 3 (flatC 0)) (by decide) (by decide) (.inr rfl) []
  have em : (List.replicate 3 (flatC 0)).map encC = [encC (flatC 0), encC (flatC 0), encC (flatC 0)] := rfl
  rw [em] at sk
  have sk : mkF (m_Section___init__ [.cell 0, .p (.lst [encC (flatC 0), encC (flatC 0), encC (flatC 0)])] [.obj "Section" [] []]) 0 = .ok (.p (encS (List.replicate 3 (flatC 0)))) [] := sk
  have eq := secEqO (cs := List.replicate 3 (flatC 0)) (fun c m => by rw [List.eq_of_mem_replicate m]; exact flatC_ok 0) []
  have e1 : ∀ q : Rho, E28 q [] = .ok (.p (.bl true)) [] := fun q => by
    have fk : wClsMK m_Section_flat gbdm_Section_flat_width 1 (wCons (wC (.p (.int 3))) wNil) q [] = .ok (.p (encS (List.replicate 3 (flatC 0)))) [] := by
      have a : wCons (wC (.p (.int 3))) wNil q [] = .ok [.p (.int (3 : Nat))] [] := rfl
      rw [wClsMK_e, a, bind_ok, clmKW_e1]
      show noFn (m_Section_flat [.fn, .p (.int (3 : Nat))] []) = _
      rw [fl]
      rfl
    unfold E28
    generalize wClsMK _ _ _ _ = WK at *
    generalize encS (List.replicate 3 (flatC 0)) = es at *
    generalize encC (flatC 0) = ec at *
    wide_line with [fk, ck, sk, eq, gbd_Column_0, gbd_Section_1]
  have b : borrowT S (.p (.int i)) = some (.p (.int i), []) := rfl
  have wl : wLent 2 E28 r S = .ok (.p (.bl true)) S := by
    unfold wLent
    rw [hr]
    dsimp only
    unfold liftT
    rw [b]
    generalize E28 = E0 at *
    show back0 [] S (E0 (envOf r 2 (.p (.int i))) []) = _
    rw [e1]
    rfl
  unfold f_law_L28
  unfold E28 at wl
  generalize wLent _ _ = W at *
  wide_line with [wl]
theorem law_true (ns : List Int) (hl : ns.length ≤ 63) : out (m_law [.p (.scr (ns.map RB.P.int))] []) (fun d _ => d = .p (.bl true)) fun _ _ => False := by
  rw [m_law_e]
  obtain ⟨c, e1, F1⟩ := feed2_ok hl
  have h62 := in62_of (i := 4 + if (ns.length : Int) < 9 then (ns.length : Int) else 9) (by split <;> omega) (by split <;> omega)
  have hn : (4 + if (ns.length : Int) < 9 then (ns.length : Int) else 9).toNat ≤ 30 := by split <;> omega
  have hn0 : 0 < (4 + if (ns.length : Int) < 9 then (ns.length : Int) else 9).toNat := by split <;> omega
  have hL1 : f_law_L1 [some (.p (.scr (ns.map P.int))), none, none, none, none, none, none, none, none, none, none, none, none, none, none, none, none] [] = .nx [some (.p (.scr (ns.map P.int))), some (.cell 0), none, none, none, none, none, none, none, none, none, none, none, none, none, none, none] [c] := by
    unfold f_law_L1
    generalize m__law_feed__2 = MF at *
    wide_line with [e1]
  have key : ∀ n : Nat, 0 < n → n ≤ 30 → ∃ r' S' i, forF (.nm 2) f_law_B2 (rngD 0 n) [some (.p (.scr (ns.map P.int))), some (.cell 0), none, none, none, none, none, none, none, none, none, none, none, none, none, none, none] [c] = .nx r' S' ∧ r'[2]? = some (some (.p (.int i))) := fun n hn0 hn => by
    obtain ⟨r', S', g1, c', R', _, _, y2, y3, y4, y5, y6, y7, y8, y9, y10, y11, y12, y13, y14, y15, y16, rfl, hi⟩ := forF_inv (T := .nm 2) (f := f_law_B2) (fun j q S => ∃ c R, S = c :: R ∧ Fd (1400 * j) c ∧ ∃ y2 y3 y4 y5 y6 y7 y8 y9 y10 y11 y12 y13 y14 y15 y16, q = [some (.p (.scr (ns.map P.int))), some (.cell 0), y2, y3, y4, y5, y6, y7, y8, y9, y10, y11, y12, y13, y14, y15, y16] ∧ (j < n → ∃ i : Int, y2 = some (.p (.int i))))
      (ds := rngD 0 n) (k := 0) (r := [some (.p (.scr (ns.map P.int))), some (.cell 0), none, none, none, none, none, none, none, none, none, none, none, none, none, none, none]) (S := [c])
      ⟨c, [], rfl, F1.le (by rw [rng_len]; omega), _, _, _, _, _, _, _, _, _, _, _, _, _, _, _, rfl, fun h => by rw [rng_len] at h; omega⟩
      (fun d md j q S ⟨c, R, e1, hc, y2, y3, y4, y5, y6, y7, y8, y9, y10, y11, y12, y13, y14, y15, y16, e2, hy⟩ => by
        subst e1; subst e2
        obtain ⟨i, rfl⟩ : ∃ i : Int, d = .p (.int i) := by
          unfold rngD at md
          obtain ⟨u, _, rfl⟩ := List.mem_map.mp md
          exact ⟨_, rfl⟩
        obtain ⟨c', R', r', t1, t2, z3, z4, z5, z6, z7, z8, z9, z10, z11, z12, z13, z14, z15, z16, rfl⟩ := law_turn (k := 1400 * j) (R := R) (x0 := some (.p (.scr (ns.map P.int)))) (x2 := some (.p (.int i))) (x3 := y3) (x4 := y4) (x5 := y5) (x6 := y6) (x7 := y7) (x8 := y8) (x9 := y9) (x10 := y10) (x11 := y11) (x12 := y12) (x13 := y13) (x14 := y14) (x15 := y15) (x16 := y16) (hc.le (by omega))
        exact ⟨_, _, _, rfl, t1, c', R', rfl, t2, some (.p (.int i)), z3, z4, z5, z6, z7, z8, z9, z10, z11, z12, z13, z14, z15, z16, rfl, fun _ => ⟨i, rfl⟩⟩)
    obtain ⟨i, rfl⟩ := hi hn0
    exact ⟨_, S', i, g1, rfl⟩
  obtain ⟨r', S', i, g1, hr⟩ := key _ hn0 hn
  have hL2 : f_law_L2 [some (.p (.scr (ns.map P.int))), some (.cell 0), none, none, none, none, none, none, none, none, none, none, none, none, none, none, none] [c] = .nx r' S' := by
    unfold f_law_L2
    generalize f_law_B2 = BB at *
    wide_line with [List.length_map, h62]
    exact g1
  unfold f_law
  rw [show [some (D.p (.scr (ns.map P.int))), none, none, none, none, none, none, none, none, none, none, none, none, none, none, none, none] = [some (.p (.scr (ns.map P.int))), none, none, none, none, none, none, none, none, none, none, none, none, none, none, none, none] from rfl, wSeq, hL1, seq_nx, wSeq, hL2, seq_nx, l28_ok hr, finN_rt]
  rfl
structure Tx (G : Glob) (mg : Str → Option Value) where
  a_is_name : Addr
  d_is_name : FuncData
  F_is_name : FunD G.K (Str.ofString "is_name") (Str.ofString "is_name") (defArgs s_is_name) (defBody s_is_name) (defScope s_is_name) [] [] a_is_name d_is_name
  g_is_name : mg (Str.ofString "is_name") = some (.ref a_is_name)
  a_is_level : Addr
  d_is_level : FuncData
  F_is_level : FunD G.K (Str.ofString "is_level") (Str.ofString "is_level") (defArgs s_is_level) (defBody s_is_level) (defScope s_is_level) [] [] a_is_level d_is_level
  g_is_level : mg (Str.ofString "is_level") = some (.ref a_is_level)
  a_need_name : Addr
  d_need_name : FuncData
  F_need_name : FunD G.K (Str.ofString "need_name") (Str.ofString "need_name") (defArgs s_need_name) (defBody s_need_name) (defScope s_need_name) [] [] a_need_name d_need_name
  g_need_name : mg (Str.ofString "need_name") = some (.ref a_need_name)
  a_need_level : Addr
  d_need_level : FuncData
  F_need_level : FunD G.K (Str.ofString "need_level") (Str.ofString "need_level") (defArgs s_need_level) (defBody s_need_level) (defScope s_need_level) [] [] a_need_level d_need_level
  g_need_level : mg (Str.ofString "need_level") = some (.ref a_need_level)
  a_is_bed : Addr
  d_is_bed : FuncData
  F_is_bed : FunD G.K (Str.ofString "is_bed") (Str.ofString "is_bed") (defArgs s_is_bed) (defBody s_is_bed) (defScope s_is_bed) [] [] a_is_bed d_is_bed
  g_is_bed : mg (Str.ofString "is_bed") = some (.ref a_is_bed)
  a_is_same_bed : Addr
  d_is_same_bed : FuncData
  F_is_same_bed : FunD G.K (Str.ofString "is_same_bed") (Str.ofString "is_same_bed") (defArgs s_is_same_bed) (defBody s_is_same_bed) (defScope s_is_same_bed) [] [] a_is_same_bed d_is_same_bed
  g_is_same_bed : mg (Str.ofString "is_same_bed") = some (.ref a_is_same_bed)
  a_are_beds : Addr
  d_are_beds : FuncData
  F_are_beds : FunD G.K (Str.ofString "are_beds") (Str.ofString "are_beds") (defArgs s_are_beds) (defBody s_are_beds) (defScope s_are_beds) [] [] a_are_beds d_are_beds
  g_are_beds : mg (Str.ofString "are_beds") = some (.ref a_are_beds)
  a_need_width : Addr
  d_need_width : FuncData
  F_need_width : FunD G.K (Str.ofString "need_width") (Str.ofString "need_width") (defArgs s_need_width) (defBody s_need_width) (defScope s_need_width) [] [] a_need_width d_need_width
  g_need_width : mg (Str.ofString "need_width") = some (.ref a_need_width)
  a__law_draw : Addr
  d__law_draw : FuncData
  F__law_draw : FunD G.K (Str.ofString "_law_draw") (Str.ofString "_law_draw") (defArgs s__law_draw) (defBody s__law_draw) (defScope s__law_draw) [] [] a__law_draw d__law_draw
  g__law_draw : mg (Str.ofString "_law_draw") = some (.ref a__law_draw)
  a__law_pick : Addr
  d__law_pick : FuncData
  F__law_pick : FunD G.K (Str.ofString "_law_pick") (Str.ofString "_law_pick") (defArgs s__law_pick) (defBody s__law_pick) (defScope s__law_pick) [] [] a__law_pick d__law_pick
  g__law_pick : mg (Str.ofString "_law_pick") = some (.ref a__law_pick)
  a__law_names : Addr
  d__law_names : FuncData
  F__law_names : FunD G.K (Str.ofString "_law_names") (Str.ofString "_law_names") (defArgs s__law_names) (defBody s__law_names) (defScope s__law_names) [] [] a__law_names d__law_names
  g__law_names : mg (Str.ofString "_law_names") = some (.ref a__law_names)
  a__law_level : Addr
  d__law_level : FuncData
  F__law_level : FunD G.K (Str.ofString "_law_level") (Str.ofString "_law_level") (defArgs s__law_level) (defBody s__law_level) (defScope s__law_level) [] [] a__law_level d__law_level
  g__law_level : mg (Str.ofString "_law_level") = some (.ref a__law_level)
  a__law_pool : Addr
  d__law_pool : FuncData
  F__law_pool : FunD G.K (Str.ofString "_law_pool") (Str.ofString "_law_pool") (defArgs s__law_pool) (defBody s__law_pool) (defScope s__law_pool) [] [] a__law_pool d__law_pool
  g__law_pool : mg (Str.ofString "_law_pool") = some (.ref a__law_pool)
  a__law_layers : Addr
  d__law_layers : FuncData
  F__law_layers : FunD G.K (Str.ofString "_law_layers") (Str.ofString "_law_layers") (defArgs s__law_layers) (defBody s__law_layers) (defScope s__law_layers) [] [] a__law_layers d__law_layers
  g__law_layers : mg (Str.ofString "_law_layers") = some (.ref a__law_layers)
  a__law_column : Addr
  d__law_column : FuncData
  F__law_column : FunD G.K (Str.ofString "_law_column") (Str.ofString "_law_column") (defArgs s__law_column) (defBody s__law_column) (defScope s__law_column) [] [] a__law_column d__law_column
  g__law_column : mg (Str.ofString "_law_column") = some (.ref a__law_column)
  a__law_built : Addr
  d__law_built : FuncData
  F__law_built : FunD G.K (Str.ofString "_law_built") (Str.ofString "_law_built") (defArgs s__law_built) (defBody s__law_built) (defScope s__law_built) [] [] a__law_built d__law_built
  g__law_built : mg (Str.ofString "_law_built") = some (.ref a__law_built)
  a__law_told_column : Addr
  d__law_told_column : FuncData
  F__law_told_column : FunD G.K (Str.ofString "_law_told_column") (Str.ofString "_law_told_column") (defArgs s__law_told_column) (defBody s__law_told_column) (defScope s__law_told_column) [] [] a__law_told_column d__law_told_column
  g__law_told_column : mg (Str.ofString "_law_told_column") = some (.ref a__law_told_column)
  a__law_any : Addr
  d__law_any : FuncData
  F__law_any : FunD G.K (Str.ofString "_law_any") (Str.ofString "_law_any") (defArgs s__law_any) (defBody s__law_any) (defScope s__law_any) [] [] a__law_any d__law_any
  g__law_any : mg (Str.ofString "_law_any") = some (.ref a__law_any)
  a__law_is_int : Addr
  d__law_is_int : FuncData
  F__law_is_int : FunD G.K (Str.ofString "_law_is_int") (Str.ofString "_law_is_int") (defArgs s__law_is_int) (defBody s__law_is_int) (defScope s__law_is_int) [] [] a__law_is_int d__law_is_int
  g__law_is_int : mg (Str.ofString "_law_is_int") = some (.ref a__law_is_int)
  a_law : Addr
  d_law : FuncData
  F_law : FunD G.K (Str.ofString "law") (Str.ofString "law") (defArgs s_law) (defBody s_law) (defScope s_law) [] [] a_law d_law
  g_law : mg (Str.ofString "law") = some (.ref a_law)
  a_Column___init__ : Addr
  d_Column___init__ : FuncData
  F_Column___init__ : FunD G.K (Str.ofString "__init__") (Str.ofString "Column.__init__") (defArgs s_Column___init__) (defBody s_Column___init__) (defScope s_Column___init__) [V.int 0, V.ref (He.dflAt ((Str.ofString "Column"), some (Str.ofString "__init__")) 1 G.K)] [((Str.ofString "root"), V.non), ((Str.ofString "mark"), V.non)] a_Column___init__ d_Column___init__
  a_Column___eq__ : Addr
  d_Column___eq__ : FuncData
  F_Column___eq__ : FunD G.K (Str.ofString "__eq__") (Str.ofString "Column.__eq__") (defArgs s_Column___eq__) (defBody s_Column___eq__) (defScope s_Column___eq__) [] [] a_Column___eq__ d_Column___eq__
  a_Section___init__ : Addr
  d_Section___init__ : FuncData
  F_Section___init__ : FunD G.K (Str.ofString "__init__") (Str.ofString "Section.__init__") (defArgs s_Section___init__) (defBody s_Section___init__) (defScope s_Section___init__) [] [] a_Section___init__ d_Section___init__
  a_Section___eq__ : Addr
  d_Section___eq__ : FuncData
  F_Section___eq__ : FunD G.K (Str.ofString "__eq__") (Str.ofString "Section.__eq__") (defArgs s_Section___eq__) (defBody s_Section___eq__) (defScope s_Section___eq__) [] [] a_Section___eq__ d_Section___eq__
  a_Section_flat : Addr
  d_Section_flat : FuncData
  F_Section_flat : FunD G.K (Str.ofString "flat") (Str.ofString "Section.flat") (defArgs s_Section_flat) (defBody s_Section_flat) (defScope s_Section_flat) [] [] a_Section_flat d_Section_flat
  a__law_pick__2 : Addr
  d__law_pick__2 : FuncData
  F__law_pick__2 : FunD G.K (Str.ofString "_law_pick") (Str.ofString "_law_pick") (defArgs s__law_pick__2) (defBody s__law_pick__2) (defScope s__law_pick__2) [] [] a__law_pick__2 d__law_pick__2
  g__law_pick__2 : mg (Str.ofString "_law_pick") = some (.ref a__law_pick__2)
  a__law_feed__2 : Addr
  d__law_feed__2 : FuncData
  F__law_feed__2 : FunD G.K (Str.ofString "_law_feed") (Str.ofString "_law_feed") (defArgs s__law_feed__2) (defBody s__law_feed__2) (defScope s__law_feed__2) [] [] a__law_feed__2 d__law_feed__2
  g__law_feed__2 : mg (Str.ofString "_law_feed") = some (.ref a__law_feed__2)
  a__law_caught__2 : Addr
  d__law_caught__2 : FuncData
  F__law_caught__2 : FunD G.K (Str.ofString "_law_caught") (Str.ofString "_law_caught") (defArgs s__law_caught__2) (defBody s__law_caught__2) (defScope s__law_caught__2) [] [] a__law_caught__2 d__law_caught__2
  g__law_caught__2 : mg (Str.ofString "_law_caught") = some (.ref a__law_caught__2)
  x_InvalidName : Addr
  gx_InvalidName : mg (Str.ofString "InvalidName") = some (.ref x_InvalidName)
  cl_InvalidName : G.cls "InvalidName" = some x_InvalidName
  ie_InvalidName : G.isE "InvalidName" = true
  x_InvalidLevel : Addr
  gx_InvalidLevel : mg (Str.ofString "InvalidLevel") = some (.ref x_InvalidLevel)
  cl_InvalidLevel : G.cls "InvalidLevel" = some x_InvalidLevel
  ie_InvalidLevel : G.isE "InvalidLevel" = true
  x_InvalidBeds : Addr
  gx_InvalidBeds : mg (Str.ofString "InvalidBeds") = some (.ref x_InvalidBeds)
  cl_InvalidBeds : G.cls "InvalidBeds" = some x_InvalidBeds
  ie_InvalidBeds : G.isE "InvalidBeds" = true
  x_InvalidColumns : Addr
  gx_InvalidColumns : mg (Str.ofString "InvalidColumns") = some (.ref x_InvalidColumns)
  cl_InvalidColumns : G.cls "InvalidColumns" = some x_InvalidColumns
  ie_InvalidColumns : G.isE "InvalidColumns" = true
  x_WrongWidth : Addr
  gx_WrongWidth : mg (Str.ofString "WrongWidth") = some (.ref x_WrongWidth)
  cl_WrongWidth : G.cls "WrongWidth" = some x_WrongWidth
  ie_WrongWidth : G.isE "WrongWidth" = true
  ex_InvalidColumns : ∀ y C, G.cls y = some C → PySem.W.exmOne G.K (.ref C) (.ref x_InvalidColumns) = some (exm_InvalidColumns y)
  ex_WrongWidth : ∀ y C, G.cls y = some C → PySem.W.exmOne G.K (.ref C) (.ref x_WrongWidth) = some (exm_WrongWidth y)
  i_InvalidName : Addr
  di_InvalidName : FuncData
  Fi_InvalidName : FunD G.K (Str.ofString "__init__") (Str.ofString "InvalidName.__init__") (defArgs si_InvalidName) (defBody si_InvalidName) (defScope si_InvalidName) [] [] i_InvalidName di_InvalidName
  K_InvalidName : ExK G.K x_InvalidName i_InvalidName [(Str.ofString "value")]
  i_InvalidLevel : Addr
  di_InvalidLevel : FuncData
  Fi_InvalidLevel : FunD G.K (Str.ofString "__init__") (Str.ofString "InvalidLevel.__init__") (defArgs si_InvalidLevel) (defBody si_InvalidLevel) (defScope si_InvalidLevel) [] [] i_InvalidLevel di_InvalidLevel
  K_InvalidLevel : ExK G.K x_InvalidLevel i_InvalidLevel [(Str.ofString "value")]
  i_InvalidBeds : Addr
  di_InvalidBeds : FuncData
  Fi_InvalidBeds : FunD G.K (Str.ofString "__init__") (Str.ofString "InvalidBeds.__init__") (defArgs si_InvalidBeds) (defBody si_InvalidBeds) (defScope si_InvalidBeds) [] [] i_InvalidBeds di_InvalidBeds
  K_InvalidBeds : ExK G.K x_InvalidBeds i_InvalidBeds [(Str.ofString "value")]
  i_InvalidColumns : Addr
  di_InvalidColumns : FuncData
  Fi_InvalidColumns : FunD G.K (Str.ofString "__init__") (Str.ofString "InvalidColumns.__init__") (defArgs si_InvalidColumns) (defBody si_InvalidColumns) (defScope si_InvalidColumns) [] [] i_InvalidColumns di_InvalidColumns
  K_InvalidColumns : ExK G.K x_InvalidColumns i_InvalidColumns [(Str.ofString "value")]
  i_WrongWidth : Addr
  di_WrongWidth : FuncData
  Fi_WrongWidth : FunD G.K (Str.ofString "__init__") (Str.ofString "WrongWidth.__init__") (defArgs si_WrongWidth) (defBody si_WrongWidth) (defScope si_WrongWidth) [] [] i_WrongWidth di_WrongWidth
  K_WrongWidth : ExK G.K x_WrongWidth i_WrongWidth [(Str.ofString "width")]
  x_Column : Addr
  gx_Column : mg (Str.ofString "Column") = some (.ref x_Column)
  cl_Column : G.cls "Column" = some x_Column
  ie_Column : G.isE "Column" = false
  M_Column : Mk G.K x_Column a_Column___init__
  clS_Column : Cls G.K x_Column
  x_Section : Addr
  gx_Section : mg (Str.ofString "Section") = some (.ref x_Section)
  cl_Section : G.cls "Section" = some x_Section
  ie_Section : G.isE "Section" = false
  M_Section : Mk G.K x_Section a_Section___init__
  clS_Section : Cls G.K x_Section
  is_Column : IsT G G.K kinds (.ref x_Column) is_Column
  is_Section : IsT G G.K kinds (.ref x_Section) is_Section
  is_ValueError : IsT G G.K kinds (.type "ValueError") is_ValueError
  ne_Column : neB G.K x_Column = true
  ne_Section : neB G.K x_Section = true
  mt_Column___eq__ : Meth G.K x_Column (Str.ofString "__eq__") a_Column___eq__
  mt_Section___eq__ : Meth G.K x_Section (Str.ofString "__eq__") a_Section___eq__
  at_beds : ∀ c ∈ cs_beds, ∀ C, G.cls c = some C → AtC G G.K c C (Str.ofString "beds")
  fs_beds : ∀ c ∈ csp_beds, ∀ C, G.cls c = some C → Cls G.K C ∧ NoAttr G.K C (Str.ofString "beds")
  at_mark : ∀ c ∈ cs_mark, ∀ C, G.cls c = some C → AtC G G.K c C (Str.ofString "mark")
  fs_mark : ∀ c ∈ csp_mark, ∀ C, G.cls c = some C → Cls G.K C ∧ NoAttr G.K C (Str.ofString "mark")
  at_foot : ∀ c ∈ cs_foot, ∀ C, G.cls c = some C → AtC G G.K c C (Str.ofString "foot")
  fs_foot : ∀ c ∈ csp_foot, ∀ C, G.cls c = some C → Cls G.K C ∧ NoAttr G.K C (Str.ofString "foot")
  at_root : ∀ c ∈ cs_root, ∀ C, G.cls c = some C → AtC G G.K c C (Str.ofString "root")
  fs_root : ∀ c ∈ csp_root, ∀ C, G.cls c = some C → Cls G.K C ∧ NoAttr G.K C (Str.ofString "root")
  at_columns : ∀ c ∈ cs_columns, ∀ C, G.cls c = some C → AtC G G.K c C (Str.ofString "columns")
  fs_columns : ∀ c ∈ csp_columns, ∀ C, G.cls c = some C → Cls G.K C ∧ NoAttr G.K C (Str.ofString "columns")
  at_top : ∀ c ∈ cs_top, ∀ C, G.cls c = some C → AtC G G.K c C (Str.ofString "top")
  fs_top : ∀ c ∈ csp_top, ∀ C, G.cls c = some C → Cls G.K C ∧ NoAttr G.K C (Str.ofString "top")
  at_width : ∀ c ∈ cs_width, ∀ C, G.cls c = some C → AtC G G.K c C (Str.ofString "width")
  fs_width : ∀ c ∈ csp_width, ∀ C, G.cls c = some C → Cls G.K C ∧ NoAttr G.K C (Str.ofString "width")
  at_value : ∀ c ∈ cs_value, ∀ C, G.cls c = some C → AtC G G.K c C (Str.ofString "value")
  fs_value : ∀ c ∈ csp_value, ∀ C, G.cls c = some C → Cls G.K C ∧ NoAttr G.K C (Str.ofString "value")
  con_MOST_COLUMNS : ∀ c ∈ ccs_MOST_COLUMNS, ∀ C, G.cls c = some C → Cls G.K C ∧ G.isE c = false ∧ conB G.K C (Str.ofString "MOST_COLUMNS") 12 = true
  crd_Section : ClX.CRead G.K x_Section (.type "type")
  pp_Section_flat : Addr
  cme_Section_flat : ClX.CMet G.K x_Section (.type "type") (Str.ofString "flat") pp_Section_flat a_Section_flat
  cvl_Section_MOST_COLUMNS : ∃ u, ClX.CVal G.K x_Section (.type "type") (Str.ofString "MOST_COLUMNS") (.int 12) u
  dt_Column___init___1 : tupEB G.K (He.dflAt ((Str.ofString "Column"), some (Str.ofString "__init__")) 1 G.K) = true
  sys : KSys G.K
  nc : G.cels = false
  co_law : Addr
  pt_law : Addr
  cd_law : d_law.code = .ref co_law
  tm_law : (pt_law, ((Str.ofString "law") ++ ".<locals>.") ++ "<lambda>") ∈ G.tabs
  tu_law : ∀ p ∈ G.tabs, p.1 = pt_law → p.2 = ((Str.ofString "law") ++ ".<locals>.") ++ "<lambda>"
  b_ValueError : mg (Str.ofString "ValueError") = none
  b_abs : mg (Str.ofString "abs") = none
  b_all : mg (Str.ofString "all") = none
  b_any : mg (Str.ofString "any") = none
  b_bool : mg (Str.ofString "bool") = none
  b_int : mg (Str.ofString "int") = none
  b_isinstance : mg (Str.ofString "isinstance") = none
  b_len : mg (Str.ofString "len") = none
  b_list : mg (Str.ofString "list") = none
  b_min : mg (Str.ofString "min") = none
  b_range : mg (Str.ofString "range") = none
  b_repr : mg (Str.ofString "repr") = none
  b_str : mg (Str.ofString "str") = none
  b_sum : mg (Str.ofString "sum") = none
  b_tuple : mg (Str.ofString "tuple") = none
  b_zip : mg (Str.ofString "zip") = none
  c_LETTERS : ∃ t, mg (Str.ofString "LETTERS") = some (.str (Str.ofString "abcdefghijklmnopqrstuvwxyz") t)
  c_LONGEST_NAME : ∃ t, mg (Str.ofString "LONGEST_NAME") = some (.int 8 t)
  c_DIGITS : ∃ t, mg (Str.ofString "DIGITS") = some (.str (Str.ofString "0123456789") t)
  c_MOST_DIGITS : ∃ t, mg (Str.ofString "MOST_DIGITS") = some (.int 60 t)
  c_MOST_COLUMNS : ∃ t, mg (Str.ofString "MOST_COLUMNS") = some (.int 12 t)
  c_MARK : ∃ t, mg (Str.ofString "MARK") = some (.str (Str.ofString "~") t)
  c_ROOT : ∃ t, mg (Str.ofString "ROOT") = some (.str (Str.ofString "#") t)
  c_THICKNESS : ∃ t, mg (Str.ofString "THICKNESS") = some (.str (Str.ofString ":") t)
section
variable {G : Glob} {P : Program} {w : World} {mg : Str → Option Value} {base : Heap}
theorem sc_is_name : FnScope N_is_name ps_is_name (defScope s_is_name) := ⟨rfl, rfl, rfl, by decide +kernel, rfl, by decide +kernel, by decide +kernel⟩
theorem bi_is_name (T : Tx G mg) : Binds G.K T.d_is_name ps_is_name [] := T.F_is_name.bindsN fun _ _ _ _ _ _ us hl => match us, hl with | [_], _ => rfl
theorem sc_is_level : FnScope N_is_level ps_is_level (defScope s_is_level) := ⟨rfl, rfl, rfl, by decide +kernel, rfl, by decide +kernel, by decide +kernel⟩
theorem bi_is_level (T : Tx G mg) : Binds G.K T.d_is_level ps_is_level [] := T.F_is_level.bindsN fun _ _ _ _ _ _ us hl => match us, hl with | [_], _ => rfl
theorem sc_need_name : FnScope N_need_name ps_need_name (defScope s_need_name) := ⟨rfl, rfl, rfl, by decide +kernel, rfl, by decide +kernel, by decide +kernel⟩
theorem bi_need_name (T : Tx G mg) : Binds G.K T.d_need_name ps_need_name [] := T.F_need_name.bindsN fun _ _ _ _ _ _ us hl => match us, hl with | [_], _ => rfl
theorem sc_need_level : FnScope N_need_level ps_need_level (defScope s_need_level) := ⟨rfl, rfl, rfl, by decide +kernel, rfl, by decide +kernel, by decide +kernel⟩
theorem bi_need_level (T : Tx G mg) : Binds G.K T.d_need_level ps_need_level [] := T.F_need_level.bindsN fun _ _ _ _ _ _ us hl => match us, hl with | [_], _ => rfl
theorem sc_is_bed : FnScope N_is_bed ps_is_bed (defScope s_is_bed) := ⟨rfl, rfl, rfl, by decide +kernel, rfl, by decide +kernel, by decide +kernel⟩
theorem bi_is_bed (T : Tx G mg) : Binds G.K T.d_is_bed ps_is_bed [] := T.F_is_bed.bindsN fun _ _ _ _ _ _ us hl => match us, hl with | [_], _ => rfl
theorem sc_is_same_bed : FnScope N_is_same_bed ps_is_same_bed (defScope s_is_same_bed) := ⟨rfl, rfl, rfl, by decide +kernel, rfl, by decide +kernel, by decide +kernel⟩
theorem bi_is_same_bed (T : Tx G mg) : Binds G.K T.d_is_same_bed ps_is_same_bed [] := T.F_is_same_bed.bindsN fun _ _ _ _ _ _ us hl => match us, hl with | [_, _], _ => rfl
theorem sc_are_beds : FnScope N_are_beds ps_are_beds (defScope s_are_beds) := ⟨rfl, rfl, rfl, by decide +kernel, rfl, by decide +kernel, by decide +kernel⟩
theorem bi_are_beds (T : Tx G mg) : Binds G.K T.d_are_beds ps_are_beds [] := T.F_are_beds.bindsN fun _ _ _ _ _ _ us hl => match us, hl with | [_], _ => rfl
theorem sc_need_width : FnScope N_need_width ps_need_width (defScope s_need_width) := ⟨rfl, rfl, rfl, by decide +kernel, rfl, by decide +kernel, by decide +kernel⟩
theorem bi_need_width (T : Tx G mg) : Binds G.K T.d_need_width ps_need_width [] := T.F_need_width.bindsN fun _ _ _ _ _ _ us hl => match us, hl with | [_], _ => rfl
theorem sc__law_draw : FnScope N__law_draw ps__law_draw (defScope s__law_draw) := ⟨rfl, rfl, rfl, by decide +kernel, rfl, by decide +kernel, by decide +kernel⟩
theorem bi__law_draw (T : Tx G mg) : Binds G.K T.d__law_draw ps__law_draw [] := T.F__law_draw.bindsN fun _ _ _ _ _ _ us hl => match us, hl with | [_, _], _ => rfl
theorem sc__law_pick : FnScope N__law_pick ps__law_pick (defScope s__law_pick) := ⟨rfl, rfl, rfl, by decide +kernel, rfl, by decide +kernel, by decide +kernel⟩
theorem bi__law_pick (T : Tx G mg) : Binds G.K T.d__law_pick ps__law_pick [] := T.F__law_pick.bindsN fun _ _ _ _ _ _ us hl => match us, hl with | [_, _], _ => rfl
theorem sc__law_names : FnScope N__law_names ps__law_names (defScope s__law_names) := ⟨rfl, rfl, rfl, by decide +kernel, rfl, by decide +kernel, by decide +kernel⟩
theorem bi__law_names (T : Tx G mg) : Binds G.K T.d__law_names ps__law_names [] := T.F__law_names.bindsN fun _ _ _ _ _ _ us hl => match us, hl with | [_, _], _ => rfl
theorem sc__law_level : FnScope N__law_level ps__law_level (defScope s__law_level) := ⟨rfl, rfl, rfl, by decide +kernel, rfl, by decide +kernel, by decide +kernel⟩
theorem bi__law_level (T : Tx G mg) : Binds G.K T.d__law_level ps__law_level [] := T.F__law_level.bindsN fun _ _ _ _ _ _ us hl => match us, hl with | [_], _ => rfl
theorem sc__law_pool : FnScope N__law_pool ps__law_pool (defScope s__law_pool) := ⟨rfl, rfl, rfl, by decide +kernel, rfl, by decide +kernel, by decide +kernel⟩
theorem bi__law_pool (T : Tx G mg) : Binds G.K T.d__law_pool ps__law_pool [] := T.F__law_pool.bindsN fun _ _ _ _ _ _ us hl => match us, hl with | [_], _ => rfl
theorem sc__law_layers : FnScope N__law_layers ps__law_layers (defScope s__law_layers) := ⟨rfl, rfl, rfl, by decide +kernel, rfl, by decide +kernel, by decide +kernel⟩
theorem bi__law_layers (T : Tx G mg) : Binds G.K T.d__law_layers ps__law_layers [] := T.F__law_layers.bindsN fun _ _ _ _ _ _ us hl => match us, hl with | [_, _, _], _ => rfl
theorem sc__law_column : FnScope N__law_column ps__law_column (defScope s__law_column) := ⟨rfl, rfl, rfl, by decide +kernel, rfl, by decide +kernel, by decide +kernel⟩
theorem bi__law_column (T : Tx G mg) : Binds G.K T.d__law_column ps__law_column [] := T.F__law_column.bindsN fun _ _ _ _ _ _ us hl => match us, hl with | [_, _, _], _ => rfl
theorem sc__law_built : FnScope N__law_built ps__law_built (defScope s__law_built) := ⟨rfl, rfl, rfl, by decide +kernel, rfl, by decide +kernel, by decide +kernel⟩
theorem bi__law_built (T : Tx G mg) : Binds G.K T.d__law_built ps__law_built [] := T.F__law_built.bindsN fun _ _ _ _ _ _ us hl => match us, hl with | [_], _ => rfl
theorem sc__law_told_column : FnScope N__law_told_column ps__law_told_column (defScope s__law_told_column) := ⟨rfl, rfl, rfl, by decide +kernel, rfl, by decide +kernel, by decide +kernel⟩
theorem bi__law_told_column (T : Tx G mg) : Binds G.K T.d__law_told_column ps__law_told_column [] := T.F__law_told_column.bindsN fun _ _ _ _ _ _ us hl => match us, hl with | [_], _ => rfl
theorem sc__law_any : FnScope N__law_any ps__law_any (defScope s__law_any) := ⟨rfl, rfl, rfl, by decide +kernel, rfl, by decide +kernel, by decide +kernel⟩
theorem bi__law_any (T : Tx G mg) : Binds G.K T.d__law_any ps__law_any [] := T.F__law_any.bindsN fun _ _ _ _ _ _ us hl => match us, hl with | [_, _], _ => rfl
theorem sc__law_is_int : FnScope N__law_is_int ps__law_is_int (defScope s__law_is_int) := ⟨rfl, rfl, rfl, by decide +kernel, rfl, by decide +kernel, by decide +kernel⟩
theorem bi__law_is_int (T : Tx G mg) : Binds G.K T.d__law_is_int ps__law_is_int [] := T.F__law_is_int.bindsN fun _ _ _ _ _ _ us hl => match us, hl with | [_], _ => rfl
theorem sc_law : FnScope N_law ps_law (defScope s_law) := ⟨rfl, rfl, rfl, by decide +kernel, rfl, by decide +kernel, by decide +kernel⟩
theorem sc_Column___init__ : FnScope N_Column___init__ ps_Column___init__ (defScope s_Column___init__) := ⟨rfl, rfl, rfl, by decide +kernel, rfl, by decide +kernel, by decide +kernel⟩
theorem sc_Column___eq__ : FnScope N_Column___eq__ ps_Column___eq__ (defScope s_Column___eq__) := ⟨rfl, rfl, rfl, by decide +kernel, rfl, by decide +kernel, by decide +kernel⟩
theorem bi_Column___eq__ (T : Tx G mg) : Binds G.K T.d_Column___eq__ ps_Column___eq__ [] := T.F_Column___eq__.bindsN fun _ _ _ _ _ _ us hl => match us, hl with | [_, _], _ => rfl
theorem sc_Section___init__ : FnScope N_Section___init__ ps_Section___init__ (defScope s_Section___init__) := ⟨rfl, rfl, rfl, by decide +kernel, rfl, by decide +kernel, by decide +kernel⟩
theorem sc_Section___eq__ : FnScope N_Section___eq__ ps_Section___eq__ (defScope s_Section___eq__) := ⟨rfl, rfl, rfl, by decide +kernel, rfl, by decide +kernel, by decide +kernel⟩
theorem bi_Section___eq__ (T : Tx G mg) : Binds G.K T.d_Section___eq__ ps_Section___eq__ [] := T.F_Section___eq__.bindsN fun _ _ _ _ _ _ us hl => match us, hl with | [_, _], _ => rfl
theorem sc_Section_flat : FnScope N_Section_flat ps_Section_flat (defScope s_Section_flat) := ⟨rfl, rfl, rfl, by decide +kernel, rfl, by decide +kernel, by decide +kernel⟩
theorem bi_Section_flat (T : Tx G mg) : Binds G.K T.d_Section_flat ps_Section_flat [] := T.F_Section_flat.bindsN fun _ _ _ _ _ _ us hl => match us, hl with | [_, _], _ => rfl
theorem sc__law_pick__2 : FnScope N__law_pick__2 ps__law_pick__2 (defScope s__law_pick__2) := ⟨rfl, rfl, rfl, by decide +kernel, rfl, by decide +kernel, by decide +kernel⟩
theorem bi__law_pick__2 (T : Tx G mg) : Binds G.K T.d__law_pick__2 ps__law_pick__2 [] := T.F__law_pick__2.bindsN fun _ _ _ _ _ _ us hl => match us, hl with | [_, _], _ => rfl
theorem sc__law_feed__2 : FnScope N__law_feed__2 ps__law_feed__2 (defScope s__law_feed__2) := ⟨rfl, rfl, rfl, by decide +kernel, rfl, by decide +kernel, by decide +kernel⟩
theorem bi__law_feed__2 (T : Tx G mg) : Binds G.K T.d__law_feed__2 ps__law_feed__2 [] := T.F__law_feed__2.bindsN fun _ _ _ _ _ _ us hl => match us, hl with | [_], _ => rfl
theorem sc__law_caught__2 : FnScope N__law_caught__2 ps__law_caught__2 (defScope s__law_caught__2) := ⟨rfl, rfl, rfl, by decide +kernel, rfl, by decide +kernel, by decide +kernel⟩
theorem bi__law_caught__2 (T : Tx G mg) : Binds G.K T.d__law_caught__2 ps__law_caught__2 [] := T.F__law_caught__2.bindsN fun _ _ _ _ _ _ us hl => match us, hl with | [_], _ => rfl
abbrev psi_InvalidName : List Str := [(Str.ofString "self"), (Str.ofString "value")]
theorem sci_InvalidName : FnScope psi_InvalidName psi_InvalidName (defScope si_InvalidName) := ⟨rfl, rfl, rfl, by decide +kernel, rfl, by decide +kernel, by decide +kernel⟩
theorem bxi_InvalidName (T : Tx G mg) : Binds G.K T.di_InvalidName psi_InvalidName [] := T.Fi_InvalidName.bindsN fun _ _ _ _ _ _ us hl => match us, hl with | [_, _], _ => rfl
theorem oki_InvalidName (T : Tx G mg) : FnOk P w G.K mg base (L2.CX P w) 1 T.i_InvalidName T.di_InvalidName psi_InvalidName (spI G.K [(Str.ofString "value")]) := ok_init1 T.Fi_InvalidName sci_InvalidName rfl rfl (Or.inl rfl) (Or.inl rfl)
abbrev psi_InvalidLevel : List Str := [(Str.ofString "self"), (Str.ofString "value")]
theorem sci_InvalidLevel : FnScope psi_InvalidLevel psi_InvalidLevel (defScope si_InvalidLevel) := ⟨rfl, rfl, rfl, by decide +kernel, rfl, by decide +kernel, by decide +kernel⟩
theorem bxi_InvalidLevel (T : Tx G mg) : Binds G.K T.di_InvalidLevel psi_InvalidLevel [] := T.Fi_InvalidLevel.bindsN fun _ _ _ _ _ _ us hl => match us, hl with | [_, _], _ => rfl
theorem oki_InvalidLevel (T : Tx G mg) : FnOk P w G.K mg base (L2.CX P w) 1 T.i_InvalidLevel T.di_InvalidLevel psi_InvalidLevel (spI G.K [(Str.ofString "value")]) := ok_init1 T.Fi_InvalidLevel sci_InvalidLevel rfl rfl (Or.inl rfl) (Or.inl rfl)
abbrev psi_InvalidBeds : List Str := [(Str.ofString "self"), (Str.ofString "value")]
theorem sci_InvalidBeds : FnScope psi_InvalidBeds psi_InvalidBeds (defScope si_InvalidBeds) := ⟨rfl, rfl, rfl, by decide +kernel, rfl, by decide +kernel, by decide +kernel⟩
theorem bxi_InvalidBeds (T : Tx G mg) : Binds G.K T.di_InvalidBeds psi_InvalidBeds [] := T.Fi_InvalidBeds.bindsN fun _ _ _ _ _ _ us hl => match us, hl with | [_, _], _ => rfl
theorem oki_InvalidBeds (T : Tx G mg) : FnOk P w G.K mg base (L2.CX P w) 1 T.i_InvalidBeds T.di_InvalidBeds psi_InvalidBeds (spI G.K [(Str.ofString "value")]) := ok_init1 T.Fi_InvalidBeds sci_InvalidBeds rfl rfl (Or.inl rfl) (Or.inl rfl)
abbrev psi_InvalidColumns : List Str := [(Str.ofString "self"), (Str.ofString "value")]
theorem sci_InvalidColumns : FnScope psi_InvalidColumns psi_InvalidColumns (defScope si_InvalidColumns) := ⟨rfl, rfl, rfl, by decide +kernel, rfl, by decide +kernel, by decide +kernel⟩
theorem bxi_InvalidColumns (T : Tx G mg) : Binds G.K T.di_InvalidColumns psi_InvalidColumns [] := T.Fi_InvalidColumns.bindsN fun _ _ _ _ _ _ us hl => match us, hl with | [_, _], _ => rfl
theorem oki_InvalidColumns (T : Tx G mg) : FnOk P w G.K mg base (L2.CX P w) 1 T.i_InvalidColumns T.di_InvalidColumns psi_InvalidColumns (spI G.K [(Str.ofString "value")]) := ok_init1 T.Fi_InvalidColumns sci_InvalidColumns rfl rfl (Or.inl rfl) (Or.inl rfl)
abbrev psi_WrongWidth : List Str := [(Str.ofString "self"), (Str.ofString "width")]
theorem sci_WrongWidth : FnScope psi_WrongWidth psi_WrongWidth (defScope si_WrongWidth) := ⟨rfl, rfl, rfl, by decide +kernel, rfl, by decide +kernel, by decide +kernel⟩
theorem bxi_WrongWidth (T : Tx G mg) : Binds G.K T.di_WrongWidth psi_WrongWidth [] := T.Fi_WrongWidth.bindsN fun _ _ _ _ _ _ us hl => match us, hl with | [_, _], _ => rfl
theorem oki_WrongWidth (T : Tx G mg) : FnOk P w G.K mg base (L2.CX P w) 1 T.i_WrongWidth T.di_WrongWidth psi_WrongWidth (spI G.K [(Str.ofString "width")]) := ok_init1 T.Fi_WrongWidth sci_WrongWidth rfl rfl (Or.inl rfl) (Or.inl rfl)
theorem bd_Column_2_root_mark (T : Tx G mg) : Bd G G.K T.d_Column___init__ ps_Column___init__ 3 [(Str.ofString "root"), (Str.ofString "mark")] gbd_Column_2_root_mark := by
  obtain ⟨its, mv, h⟩ := T.F_Column___init__.kbinds (ps := ps_Column___init__) 3 [(Str.ofString "root"), (Str.ofString "mark")] [] (fun us its mv ws => us ++ (pk 0 ws ++ (pk 1 ws))) (by simp) (by simp) (by simp) (fun r1 r2 r3 r4 => r1.append ((vpk r4).append ((vpk r4))))
    (fun T D doc pm an cdv ct us its mv ws l1 l2 l3 l4 => match us, l1, its, l2, mv, l3, ws, l4 with | [_, _, _], _, [_, _], _, [], _, [_, _], _ => ⟨_, rfl, rfl⟩)
  exact ⟨_, _, h, fun w vs zs ds es r1 r2 => r1.append ((dpk r2).append ((dpk r2)))⟩
theorem bd_Section_1 (T : Tx G mg) : Bd G G.K T.d_Section___init__ ps_Section___init__ 2 [] gbd_Section_1 := ⟨fun us _ => us, fun vs _ => vs, ⟨fun s us ws KI l1 l2 => by
    have b := T.F_Section___init__.bindsN (ps := ps_Section___init__) fun _ _ _ _ _ _ us hl => match us, hl with | [_, _], _ => rfl
    have e := List.eq_nil_of_length_eq_zero l2
    subst e
    have := b s us KI (by rw [List.append_nil]; exact l1)
    rwa [List.append_nil] at this, fun r1 r2 => r1⟩, fun w vs zs ds es r1 r2 => r1⟩
theorem bd_Section_1__2 (T : Tx G mg) : Bd (Glob.two G) G.K T.d_Section___init__ ps_Section___init__ 2 [] gbd_Section_1 := ⟨fun us _ => us, fun vs _ => vs, ⟨fun s us ws KI l1 l2 => by
    have b := T.F_Section___init__.bindsN (ps := ps_Section___init__) fun _ _ _ _ _ _ us hl => match us, hl with | [_, _], _ => rfl
    have e := List.eq_nil_of_length_eq_zero l2
    subst e
    have := b s us KI (by rw [List.append_nil]; exact l1)
    rwa [List.append_nil] at this, fun r1 r2 => r1⟩, fun w vs zs ds es r1 r2 => r1⟩
theorem bd_Section_0_columns (T : Tx G mg) : Bd G G.K T.d_Section___init__ ps_Section___init__ 1 [(Str.ofString "columns")] gbd_Section_0_columns := bd_plain T.F_Section___init__ (fun us ws => us ++ (pk 0 ws)) (fun us ws => us ++ (pk 0 ws)) (fun r1 r4 => r1.append ((vpk r4))) (fun w vs zs ds es r1 r2 => r1.append ((dpk r2))) fun _ _ _ _ _ _ us ws l1 l2 => match us, l1, ws, l2 with | [_], _, [_], _ => rfl
theorem bd_Column_1 (T : Tx G mg) : Bd G G.K T.d_Column___init__ ps_Column___init__ 2 [] gbd_Column_1 := by
  obtain ⟨its, mv, h⟩ := T.F_Column___init__.kbinds (ps := ps_Column___init__) 2 [] [((Str.ofString "root"), V.non), ((Str.ofString "mark"), V.non)] (fun us its mv ws => us ++ (pk 1 its ++ (pk 0 mv ++ (pk 1 mv)))) (by simp) (by simp) (by simp) (fun r1 r2 r3 r4 => r1.append ((vpk r2).append ((vpk r3).append ((vpk r3)))))
    (fun T D doc pm an cdv ct us its mv ws l1 l2 l3 l4 => match us, l1, its, l2, mv, l3, ws, l4 with | [_, _], _, [_, _], _, [_, _], _, [], _ => ⟨_, rfl, ⟨_, _, _, _, _, _, rfl, rfl, ⟨_, _, _, _, _, _, rfl, rfl, rfl⟩⟩⟩)
  exact ⟨_, _, h, fun w vs zs ds es r1 r2 => r1.append ((show RepDs G w [V.ref (He.dflAt ((Str.ofString "Column"), some (Str.ofString "__init__")) 1 G.K)] [.p (.tup [])] from ⟨tupEB_ok T.dt_Column___init___1 w, trivial⟩).append ((show RepDs G w [V.non] [.p .non] from ⟨rep_non.mpr rfl, trivial⟩).append ((show RepDs G w [V.non] [.p .non] from ⟨rep_non.mpr rfl, trivial⟩))))⟩
theorem bd_Column_0 (T : Tx G mg) : Bd G G.K T.d_Column___init__ ps_Column___init__ 1 [] gbd_Column_0 := by
  obtain ⟨its, mv, h⟩ := T.F_Column___init__.kbinds (ps := ps_Column___init__) 1 [] [((Str.ofString "root"), V.non), ((Str.ofString "mark"), V.non)] (fun us its mv ws => us ++ (pk 0 its ++ (pk 1 its ++ (pk 0 mv ++ (pk 1 mv))))) (by simp) (by simp) (by simp) (fun r1 r2 r3 r4 => r1.append ((vpk r2).append ((vpk r2).append ((vpk r3).append ((vpk r3))))))
    (fun T D doc pm an cdv ct us its mv ws l1 l2 l3 l4 => match us, l1, its, l2, mv, l3, ws, l4 with | [_], _, [_, _], _, [_, _], _, [], _ => ⟨_, rfl, ⟨_, _, _, _, _, _, rfl, rfl, ⟨_, _, _, _, _, _, rfl, rfl, rfl⟩⟩⟩)
  exact ⟨_, _, h, fun w vs zs ds es r1 r2 => r1.append ((show RepDs G w [V.int 0] [.p (.int 0)] from ⟨rep_int.mpr rfl, trivial⟩).append ((show RepDs G w [V.ref (He.dflAt ((Str.ofString "Column"), some (Str.ofString "__init__")) 1 G.K)] [.p (.tup [])] from ⟨tupEB_ok T.dt_Column___init___1 w, trivial⟩).append ((show RepDs G w [V.non] [.p .non] from ⟨rep_non.mpr rfl, trivial⟩).append ((show RepDs G w [V.non] [.p .non] from ⟨rep_non.mpr rfl, trivial⟩)))))⟩
theorem bdm_Section_flat_width (T : Tx G mg) : Bd G G.K T.d_Section_flat ps_Section_flat 1 [(Str.ofString "width")] gbdm_Section_flat_width := bd_plain T.F_Section_flat (fun us ws => us ++ (pk 0 ws)) (fun us ws => us ++ (pk 0 ws)) (fun r1 r4 => r1.append ((vpk r4))) (fun w vs zs ds es r1 r2 => r1.append ((dpk r2))) fun _ _ _ _ _ _ us ws l1 l2 => match us, l1, ws, l2 with | [_], _, [_], _ => rfl
theorem ok_is_name (T : Tx G mg) : FnG G P w mg base 1 T.a_is_name T.d_is_name ps_is_name (spF m_is_name) :=
  fn_f (k := 0) (f := f_is_name) T.nc T.F_is_name sc_is_name (fun cdv A outer s H E C =>
    (rss_cons (rs_if (rw_or (rt_not (rt_val (re_callB (cl_isi (by rfl)) (by rfl) T.b_isinstance bo_isinstance (ra_cons (re_var 0) (ra_cons (re_ty (by rfl) T.b_str bo_str) ra_nil))))) (rw_or1 (rt_not (rt_chain ol_le ol_le re_int (re_callB (cl_len (by rfl)) (by rfl) T.b_len bo_len (ra_cons (re_var 0) ra_nil)) (re_gint (by rfl) T.c_LONGEST_NAME.choose_spec))))).rt (rss_one (rs_ret re_bl)) rss_nil)
      (rss_one (rs_ret (re_callB (cl_all (by rfl) (by rfl)) (by rfl) T.b_all bo_all (ra_cons (re_lc (own := [((Str.ofString "sign"), 1)]) (T := (.nm 1)) (by rfl) (by rfl) sc_is_name.nd (ri_seq (by rfl) (re_var 0)) (blkOk_by (own := [((Str.ofString "sign"), 1)]) (N := N_is_name) (sc := defScope s_is_name) (by decide +kernel)) (by decide) (fun s1 H1 a1 cl1 fp1 => (pg_name (i := 1) sc_is_name.nd (by rfl) (Or.inl (by rfl)))) (fun s1 H1 a1 cl1 fp1 => rts_nil) (fun s1 H1 a1 cl1 fp1 => (re_cmp ol_inS (re_var 1) (re_gstr (by rfl) T.c_LETTERS.choose_spec) (by rfl)))) ra_nil))))))
theorem ok_is_level (T : Tx G mg) : FnG G P w mg base 1 T.a_is_level T.d_is_level ps_is_level (spF m_is_level) :=
  fn_f (k := 0) (f := f_is_level) T.nc T.F_is_level sc_is_level (fun cdv A outer s H E C =>
    (rss_one (rs_ret (re_and (re_callB (cl_isi (by rfl)) (by rfl) T.b_isinstance bo_isinstance (ra_cons (re_var 0) (ra_cons (re_ty (by rfl) T.b_int bo_int) ra_nil))) (re_one (re_not (re_callB (cl_isi (by rfl)) (by rfl) T.b_isinstance bo_isinstance (ra_cons (re_var 0) (ra_cons (re_ty (by rfl) T.b_bool bo_bool) ra_nil)))))))))
theorem ok_need_name (T : Tx G mg) : FnG G P w mg base 3 T.a_need_name T.d_need_name ps_need_name (spF m_need_name) :=
  fn_f (k := 2) (f := f_need_name) T.nc T.F_need_name sc_need_name (fun cdv A outer s H E C =>
    (rss_one (rs_if (rt_not (rt_val (re_callN C (ok_is_name T) (by decide) (by rfl) T.g_is_name T.F_is_name.kp (bi_is_name T) (ra_cons (re_var 0) ra_nil)))) (rss_one (rs_raise (k := 1) C T.K_InvalidName (oki_InvalidName T) (by decide) (bxi_InvalidName T) (by rfl) T.gx_InvalidName T.cl_InvalidName T.ie_InvalidName (ra_cons (re_var 0) ra_nil))) rss_nil)))
theorem ok_need_level (T : Tx G mg) : FnG G P w mg base 3 T.a_need_level T.d_need_level ps_need_level (spF m_need_level) :=
  fn_f (k := 2) (f := f_need_level) T.nc T.F_need_level sc_need_level (fun cdv A outer s H E C =>
    (rss_one (rs_if (rt_not (rt_val (re_callN C (ok_is_level T) (by decide) (by rfl) T.g_is_level T.F_is_level.kp (bi_is_level T) (ra_cons (re_var 0) ra_nil)))) (rss_one (rs_raise (k := 1) C T.K_InvalidLevel (oki_InvalidLevel T) (by decide) (bxi_InvalidLevel T) (by rfl) T.gx_InvalidLevel T.cl_InvalidLevel T.ie_InvalidLevel (ra_cons (re_var 0) ra_nil))) rss_nil)))
theorem ok_is_bed (T : Tx G mg) : FnG G P w mg base 2 T.a_is_bed T.d_is_bed ps_is_bed (spF m_is_bed) :=
  fn_f (k := 1) (f := f_is_bed) T.nc T.F_is_bed sc_is_bed (fun cdv A outer s H E C =>
    (rss_cons (rs_if (rw_or (rt_not (rt_val (re_callB (cl_isi (by rfl)) (by rfl) T.b_isinstance bo_isinstance (ra_cons (re_var 0) (ra_cons (re_ty (by rfl) T.b_tuple bo_tuple) ra_nil))))) (rw_or1 (rt_cmp (ol_ne (by rfl) C.hu) (re_callB (cl_len (by rfl)) (by rfl) T.b_len bo_len (ra_cons (re_var 0) ra_nil)) re_int (nomark _)))).rt (rss_one (rs_ret re_bl)) rss_nil)
      (rss_cons (rs_asgT (is := [1, 2, 3]) (by rfl) (by rfl) (re_var 0) (pgs_cons (pg_name (i := 1) sc_is_bed.nd (by rfl) (Or.inl (by rfl))) (pgs_cons (pg_name (i := 2) sc_is_bed.nd (by rfl) (Or.inl (by rfl))) (pgs_cons (pg_name (i := 3) sc_is_bed.nd (by rfl) (Or.inl (by rfl))) pgs_nil))))
      (rss_one (rs_ret (re_and (re_callN C (ok_is_name T) (by decide) (by rfl) T.g_is_name T.F_is_name.kp (bi_is_name T) (ra_cons (re_var 1) ra_nil)) (re_and (re_callN C (ok_is_level T) (by decide) (by rfl) T.g_is_level T.F_is_level.kp (bi_is_level T) (ra_cons (re_var 2) ra_nil)) (re_and (re_cmp ol_gt (re_var 2) re_int (nomark _)) (re_one (re_or (re_cmp ol_isN (re_var 3) re_non (nomark _)) (re_one (re_callN C (ok_is_name T) (by decide) (by rfl) T.g_is_name T.F_is_name.kp (bi_is_name T) (ra_cons (re_var 3) ra_nil)))))))))))))
theorem ok_is_same_bed (T : Tx G mg) : FnG G P w mg base 1 T.a_is_same_bed T.d_is_same_bed ps_is_same_bed (spF m_is_same_bed) :=
  fn_f (k := 0) (f := f_is_same_bed) T.nc T.F_is_same_bed sc_is_same_bed (fun cdv A outer s H E C =>
    (rss_one (rs_ret (re_and (re_cmp (ol_eq (by rfl) C.hu) (re_ix (il_ix (by rfl)) (re_var 0) re_int) (re_ix (il_ix (by rfl)) (re_var 1) re_int) (nomark _)) (re_one (re_cmp ol_isN (re_ix (il_ix (by rfl)) (re_var 0) re_int) re_non (nomark _)))))))
theorem ok_are_beds (T : Tx G mg) : FnG G P w mg base 3 T.a_are_beds T.d_are_beds ps_are_beds (spF m_are_beds) :=
  fn_f (k := 2) (f := f_are_beds) T.nc T.F_are_beds sc_are_beds (fun cdv A outer s H E C =>
    (rss_cons (rs_if (rw_or (rt_not (rt_val (re_isi2 (by rfl) (re_var 0) (by rfl) T.b_isinstance (by rfl) T.b_list bo_list (by rfl) T.b_tuple bo_tuple))) (rw_or1 (rt_not (rt_val (re_callB (cl_all (by rfl) (by rfl)) (by rfl) T.b_all bo_all (ra_cons (re_lc (own := [((Str.ofString "bed"), 1)]) (T := (.nm 1)) (by rfl) (by rfl) sc_are_beds.nd (ri_seq (by rfl) (re_var 0)) (blkOk_by (own := [((Str.ofString "bed"), 1)]) (N := N_are_beds) (sc := defScope s_are_beds) (by decide +kernel)) (by decide) (fun s1 H1 a1 cl1 fp1 => (pg_name (i := 1) sc_are_beds.nd (by rfl) (Or.inl (by rfl)))) (fun s1 H1 a1 cl1 fp1 => rts_nil) (fun s1 H1 a1 cl1 fp1 => have C1 := C.blk s1 H1 _ _ fp1; (re_callN C1 (ok_is_bed T) (by decide) (by rfl) T.g_is_bed T.F_is_bed.kp (bi_is_bed T) (ra_cons (re_var 1) ra_nil)))) ra_nil)))))).rt (rss_one (rs_ret re_bl)) rss_nil)
      (rss_one (rs_ret (re_not (re_callB (cl_any (by rfl) (by rfl)) (by rfl) T.b_any bo_any (ra_cons (re_lc (own := [((Str.ofString "lower"), 2), ((Str.ofString "upper"), 3)]) (T := (.tp [2, 3])) (by rfl) (by rfl) sc_are_beds.nd (ri_zip (by rfl) (by rfl) T.b_zip (ra_cons (re_var 0) (ra_cons (re_slice (by rfl) (re_var 0) (ro_some re_int) ro_none) ra_nil))) (blkOk_by (own := [((Str.ofString "lower"), 2), ((Str.ofString "upper"), 3)]) (N := N_are_beds) (sc := defScope s_are_beds) (by decide +kernel)) (by decide) (fun s1 H1 a1 cl1 fp1 => (pg_tup (by rfl) (pgs_cons (pg_name (i := 2) sc_are_beds.nd (by rfl) (Or.inl (by rfl))) (pgs_cons (pg_name (i := 3) sc_are_beds.nd (by rfl) (Or.inl (by rfl))) pgs_nil)))) (fun s1 H1 a1 cl1 fp1 => rts_nil) (fun s1 H1 a1 cl1 fp1 => have C1 := C.blk s1 H1 _ _ fp1; (re_callN C1 (ok_is_same_bed T) (by decide) (by rfl) T.g_is_same_bed T.F_is_same_bed.kp (bi_is_same_bed T) (ra_cons (re_var 2) (ra_cons (re_var 3) ra_nil))))) ra_nil)))))))
theorem ok_need_width (T : Tx G mg) : FnG G P w mg base 3 T.a_need_width T.d_need_width ps_need_width (spF m_need_width) :=
  fn_f (k := 2) (f := f_need_width) T.nc T.F_need_width sc_need_width (fun cdv A outer s H E C =>
    (rss_one (rs_if (rw_or (rt_not (rt_val (re_callN C (ok_is_level T) (by decide) (by rfl) T.g_is_level T.F_is_level.kp (bi_is_level T) (ra_cons (re_var 0) ra_nil)))) (rw_or1 (rt_not (rt_chain ol_le ol_le re_int (re_var 0) (re_gint (by rfl) T.c_MOST_COLUMNS.choose_spec))))).rt (rss_one (rs_raise (k := 1) C T.K_WrongWidth (oki_WrongWidth T) (by decide) (bxi_WrongWidth T) (by rfl) T.gx_WrongWidth T.cl_WrongWidth T.ie_WrongWidth (ra_cons (re_var 0) ra_nil))) rss_nil)))
theorem ok__law_draw (T : Tx G mg) : FnG G P w mg base 1 T.a__law_draw T.d__law_draw ps__law_draw (spF m__law_draw) :=
  fn_f (k := 0) (f := f__law_draw) T.nc T.F__law_draw sc__law_draw (fun cdv A outer s H E C =>
    (rss_cons (rs_if (rt_cmp ol_gt (re_dget C.h1 (re_var 0) re_str) re_int (nomark _)) (rss_cons (rs_set (i := 7) sc__law_draw.nd (by rfl) (Or.inl (by rfl)) (re_bin ol_mod (re_callTy cl_int (by rfl) T.b_int bo_int (ra_cons (re_dget C.h1 (re_var 0) re_str) ra_nil)) (re_var 1)))
      (rss_cons (rs_dput C.h1 (re_var 0) re_str (re_bin ol_fdiv (re_dget C.h1 (re_var 0) re_str) (re_var 1)))
      (rss_one (rs_ret (re_var 7))))) rss_nil)
      (rss_cons (rs_set (i := 2) sc__law_draw.nd (by rfl) (Or.inl (by rfl)) (re_dget C.h1 (re_var 0) re_str))
      (rss_cons (rs_dput C.h1 (re_var 0) re_str (re_bin (ol_add (by rfl)) (re_var 2) re_int))
      (rss_cons (rs_set (i := 3) sc__law_draw.nd (by rfl) (Or.inl (by rfl)) (re_bin (ol_add (by rfl)) (re_bin ol_mul re_int (re_var 2)) re_int))
      (rss_cons (rs_if (rt_cmp (ol_ne (by rfl) C.hu) (re_dget C.h1 (re_var 0) re_str) (re_lst ra_nil) (nomark _)) (rss_one (rs_set (i := 3) sc__law_draw.nd (by rfl) (Or.inl (by rfl)) (re_ix (il_ix (by rfl)) (re_dget C.h1 (re_var 0) re_str) (re_bin ol_mod (re_callTy cl_int (by rfl) T.b_int bo_int (ra_cons (re_var 2) ra_nil)) (re_callB (cl_len (by rfl)) (by rfl) T.b_len bo_len (ra_cons (re_dget C.h1 (re_var 0) re_str) ra_nil)))))) rss_nil)
      (rss_cons (rs_if (rw_and (rt_cmp ol_lt (re_var 2) (re_callB (cl_len (by rfl)) (by rfl) T.b_len bo_len (ra_cons (re_dget C.h1 (re_var 0) re_str) ra_nil)) (nomark _)) (rw_and1 (rt_cmp ol_ge (re_callB cl_abs (by rfl) T.b_abs bo_abs (ra_cons (re_var 3) ra_nil)) (re_bin ol_pow re_int re_int) (nomark _)))).rt (rss_cons (rs_dput C.h1 (re_var 0) re_str (re_bin ol_fdiv (re_bin ol_sub (re_callB cl_abs (by rfl) T.b_abs bo_abs (ra_cons (re_var 3) ra_nil)) (re_bin ol_pow re_int re_int)) (re_var 1)))
      (rss_one (rs_ret (re_bin ol_mod (re_bin ol_sub (re_callB cl_abs (by rfl) T.b_abs bo_abs (ra_cons (re_var 3) ra_nil)) (re_bin ol_pow re_int re_int)) (re_var 1))))) rss_nil)
      (rss_cons (rs_set (i := 4) sc__law_draw.nd (by rfl) (Or.inl (by rfl)) (re_lst (ra_cons re_int (ra_cons re_int (ra_cons re_int (ra_cons re_int (ra_cons re_int ra_nil)))))))
      (rss_cons (rs_set (i := 5) sc__law_draw.nd (by rfl) (Or.inl (by rfl)) (re_ix (il_ix (by rfl)) (re_var 4) (re_bin ol_mod (re_callTy cl_int (by rfl) T.b_int bo_int (ra_cons (re_var 2) ra_nil)) re_int)))
      (rss_cons (rs_set (i := 6) sc__law_draw.nd (by rfl) (Or.inl (by rfl)) (re_bin ol_mod (re_callTy cl_int (by rfl) T.b_int bo_int (ra_cons (re_bin (ol_add (by rfl)) (re_bin (ol_add (by rfl)) (re_bin (ol_add (by rfl)) (re_bin ol_mul (re_bin ol_mod (re_callTy cl_int (by rfl) T.b_int bo_int (ra_cons (re_var 3) ra_nil)) (re_var 5)) re_int) (re_bin ol_mul (re_bin ol_mul re_int (re_var 2)) (re_var 2))) (re_bin ol_mul re_int (re_var 2))) re_int) ra_nil)) (re_var 5)))
      (rss_cons (rs_set (i := 6) sc__law_draw.nd (by rfl) (Or.inl (by rfl)) (re_bin ol_mod (re_callTy cl_int (by rfl) T.b_int bo_int (ra_cons (re_bin ol_mul (re_var 6) (re_bin (ol_add (by rfl)) (re_var 6) re_int)) ra_nil)) (re_ix (il_ix (by rfl)) (re_var 4) (re_bin ol_mod (re_callTy cl_int (by rfl) T.b_int bo_int (ra_cons (re_bin (ol_add (by rfl)) (re_var 2) re_int) ra_nil)) re_int))))
      (rss_one (rs_ret (re_bin ol_mod (re_callTy cl_int (by rfl) T.b_int bo_int (ra_cons (re_bin ol_fdiv (re_bin ol_mod (re_callTy cl_int (by rfl) T.b_int bo_int (ra_cons (re_bin ol_mul (re_var 6) (re_var 6)) ra_nil)) re_int) re_int) ra_nil)) (re_var 1)))))))))))))))
theorem ok__law_pick (T : Tx G mg) : FnG G P w mg base 2 T.a__law_pick T.d__law_pick ps__law_pick (spF m__law_pick) :=
  fn_f (k := 1) (f := f__law_pick) T.nc T.F__law_pick sc__law_pick (fun cdv A outer s H E C =>
    (rss_one (rs_ret (re_ix (il_ix (by rfl)) (re_var 1) (re_callN C (ok__law_draw T) (by decide) (by rfl) T.g__law_draw T.F__law_draw.kp (bi__law_draw T) (ra_cons (re_var 0) (ra_cons (re_callB (cl_len (by rfl)) (by rfl) T.b_len bo_len (ra_cons (re_var 1) ra_nil)) ra_nil)))))))
theorem ok__law_names (T : Tx G mg) : FnG G P w mg base 3 T.a__law_names T.d__law_names ps__law_names (spF m__law_names) :=
  fn_f (k := 2) (f := f__law_names) T.nc T.F__law_names sc__law_names (fun cdv A outer s H E C =>
    (rss_cons (rs_set (i := 2) sc__law_names.nd (by rfl) (Or.inr (by rfl)) re_str)
      (rss_cons (rs_set (i := 3) sc__law_names.nd (by rfl) (Or.inr (by rfl)) (re_join (by rfl) re_str (re_lc (own := [((Str.ofString "_law_k"), 10)]) (T := (.nm 10)) (by rfl) (by rfl) sc__law_names.nd (ri_range1 (by rfl) T.b_range (re_bin (ol_add (by rfl)) re_int (re_callN C (ok__law_draw T) (by decide) (by rfl) T.g__law_draw T.F__law_draw.kp (bi__law_draw T) (ra_cons (re_var 0) (ra_cons re_int ra_nil))))) (blkOk_by (own := [((Str.ofString "_law_k"), 10)]) (N := N__law_names) (sc := defScope s__law_names) (by decide +kernel)) (by decide) (fun s1 H1 a1 cl1 fp1 => (pg_name (i := 10) sc__law_names.nd (by rfl) (Or.inl (by rfl)))) (fun s1 H1 a1 cl1 fp1 => rts_nil) (fun s1 H1 a1 cl1 fp1 => have C1 := C.blk s1 H1 _ _ fp1; (re_callN C1 (ok__law_pick T) (by decide) (by rfl) T.g__law_pick T.F__law_pick.kp (bi__law_pick T) (ra_cons (re_var 0) (ra_cons (re_var 2) ra_nil)))))))
      (rss_cons (rs_asgT (is := [7, 8, 9]) (by rfl) (by rfl) (re_tup (ra_cons (re_callN C (ok__law_draw T) (by decide) (by rfl) T.g__law_draw T.F__law_draw.kp (bi__law_draw T) (ra_cons (re_var 0) (ra_cons (re_callB (cl_len (by rfl)) (by rfl) T.b_len bo_len (ra_cons (re_var 3) ra_nil)) ra_nil))) (ra_cons (re_callN C (ok__law_draw T) (by decide) (by rfl) T.g__law_draw T.F__law_draw.kp (bi__law_draw T) (ra_cons (re_var 0) (ra_cons re_int ra_nil))) (ra_cons (re_callN C (ok__law_draw T) (by decide) (by rfl) T.g__law_draw T.F__law_draw.kp (bi__law_draw T) (ra_cons (re_var 0) (ra_cons re_int ra_nil))) ra_nil)))) (pgs_cons (pg_name (i := 7) sc__law_names.nd (by rfl) (Or.inr (by rfl))) (pgs_cons (pg_name (i := 8) sc__law_names.nd (by rfl) (Or.inr (by rfl))) (pgs_cons (pg_name (i := 9) sc__law_names.nd (by rfl) (Or.inr (by rfl))) pgs_nil))))
      (rss_cons (rs_set (i := 4) sc__law_names.nd (by rfl) (Or.inr (by rfl)) (re_callN C (ok__law_pick T) (by decide) (by rfl) T.g__law_pick T.F__law_pick.kp (bi__law_pick T) (ra_cons (re_var 0) (ra_cons (re_lst (ra_cons re_int (ra_cons re_int (ra_cons re_int (ra_cons re_int (ra_cons re_int (ra_cons re_int (ra_cons re_int (ra_cons re_int (ra_cons re_int (ra_cons re_int (ra_cons re_int (ra_cons re_int ra_nil))))))))))))) ra_nil))))
      (rss_cons (rs_set (i := 5) sc__law_names.nd (by rfl) (Or.inr (by rfl)) (re_lc (own := [((Str.ofString "_law_k"), 10)]) (T := (.nm 10)) (by rfl) (by rfl) sc__law_names.nd (ri_range1 (by rfl) T.b_range (re_var 1)) (blkOk_by (own := [((Str.ofString "_law_k"), 10)]) (N := N__law_names) (sc := defScope s__law_names) (by decide +kernel)) (by decide) (fun s1 H1 a1 cl1 fp1 => (pg_name (i := 10) sc__law_names.nd (by rfl) (Or.inl (by rfl)))) (fun s1 H1 a1 cl1 fp1 => rts_nil) (fun s1 H1 a1 cl1 fp1 => (re_ix (il_ix (by rfl)) (re_var 2) (re_bin ol_mod (re_callTy cl_int (by rfl) T.b_int bo_int (ra_cons (re_bin (ol_add (by rfl)) (re_var 8) (re_bin ol_mul (re_var 4) (re_var 10))) ra_nil)) re_int)))))
      (rss_cons (rs_set (i := 6) sc__law_names.nd (by rfl) (Or.inr (by rfl)) (re_lc (own := [((Str.ofString "_law_k"), 10)]) (T := (.nm 10)) (by rfl) (by rfl) sc__law_names.nd (ri_range1 (by rfl) T.b_range (re_var 1)) (blkOk_by (own := [((Str.ofString "_law_k"), 10)]) (N := N__law_names) (sc := defScope s__law_names) (by decide +kernel)) (by decide) (fun s1 H1 a1 cl1 fp1 => (pg_name (i := 10) sc__law_names.nd (by rfl) (Or.inl (by rfl)))) (fun s1 H1 a1 cl1 fp1 => rts_nil) (fun s1 H1 a1 cl1 fp1 => (re_slice (by rfl) (re_slice (by rfl) (re_var 3) (ro_some (re_bin (ol_add (by rfl)) (re_var 7) re_int)) ro_none) ro_none (ro_some (re_ix (il_ix (by rfl)) (re_lst (ra_cons re_int (ra_cons (re_bin ol_mod (re_callTy cl_int (by rfl) T.b_int bo_int (ra_cons (re_var 10) ra_nil)) re_int) ra_nil))) (re_var 9)))))))
      (rss_one (rs_ret (re_lc (own := [((Str.ofString "_law_k"), 10)]) (T := (.nm 10)) (by rfl) (by rfl) sc__law_names.nd (ri_range1 (by rfl) T.b_range (re_var 1)) (blkOk_by (own := [((Str.ofString "_law_k"), 10)]) (N := N__law_names) (sc := defScope s__law_names) (by decide +kernel)) (by decide) (fun s1 H1 a1 cl1 fp1 => (pg_name (i := 10) sc__law_names.nd (by rfl) (Or.inl (by rfl)))) (fun s1 H1 a1 cl1 fp1 => rts_nil) (fun s1 H1 a1 cl1 fp1 => (re_bin (ol_add (by rfl)) (re_bin (ol_add (by rfl)) (re_slice (by rfl) (re_var 3) ro_none (ro_some (re_var 7))) (re_ix (il_ix (by rfl)) (re_var 5) (re_var 10))) (re_ix (il_ix (by rfl)) (re_var 6) (re_var 10))))))))))))))
theorem ok__law_level (T : Tx G mg) : FnG G P w mg base 3 T.a__law_level T.d__law_level ps__law_level (spF m__law_level) :=
  fn_f (k := 2) (f := f__law_level) T.nc T.F__law_level sc__law_level (fun cdv A outer s H E C =>
    (rss_cons (rs_par2 (i := 1) (j := 2) (by rfl) sc__law_level.nd (by rfl) (by rfl) (by decide) (by rfl) (by rfl) (ra_cons (re_bin ol_sub (re_callN C (ok__law_draw T) (by decide) (by rfl) T.g__law_draw T.F__law_draw.kp (bi__law_draw T) (ra_cons (re_var 0) (ra_cons re_int ra_nil))) re_int) (ra_cons (re_bin (ol_add (by rfl)) (re_bin ol_pow re_int re_int) (re_callN C (ok__law_draw T) (by decide) (by rfl) T.g__law_draw T.F__law_draw.kp (bi__law_draw T) (ra_cons (re_var 0) (ra_cons (re_bin ol_pow re_int re_int) ra_nil)))) ra_nil)))
      (rss_one (rs_ret (re_callN C (ok__law_pick T) (by decide) (by rfl) T.g__law_pick T.F__law_pick.kp (bi__law_pick T) (ra_cons (re_var 0) (ra_cons (re_lst (ra_cons (re_var 1) (ra_cons (re_var 1) (ra_cons (re_var 1) (ra_cons (re_var 1) (ra_cons (re_var 1) (ra_cons (re_var 1) (ra_cons (re_bin ol_sub (re_callN C (ok__law_draw T) (by decide) (by rfl) T.g__law_draw T.F__law_draw.kp (bi__law_draw T) (ra_cons (re_var 0) (ra_cons re_int ra_nil))) re_int) (ra_cons (re_var 2) (ra_cons (re_bin ol_sub re_int (re_var 2)) ra_nil)))))))))) ra_nil)))))))
theorem ok__law_pool (T : Tx G mg) : FnG G P w mg base 4 T.a__law_pool T.d__law_pool ps__law_pool (spF m__law_pool) :=
  fn_f (k := 3) (f := f__law_pool) T.nc T.F__law_pool sc__law_pool (fun cdv A outer s H E C =>
    (rss_one (rs_ret (re_callN C (ok__law_names T) (by decide) (by rfl) T.g__law_names T.F__law_names.kp (bi__law_names T) (ra_cons (re_var 0) (ra_cons (re_bin (ol_add (by rfl)) re_int (re_callN C (ok__law_draw T) (by decide) (by rfl) T.g__law_draw T.F__law_draw.kp (bi__law_draw T) (ra_cons (re_var 0) (ra_cons re_int ra_nil)))) ra_nil))))))
theorem ok__law_layers (T : Tx G mg) : FnG G P w mg base 3 T.a__law_layers T.d__law_layers ps__law_layers (spF m__law_layers) :=
  fn_f (k := 2) (f := f__law_layers) T.nc T.F__law_layers sc__law_layers (fun cdv A outer s H E C =>
    (rss_cons (rs_set (i := 3) sc__law_layers.nd (by rfl) (Or.inl (by rfl)) (re_newL ra_nil))
      (rss_cons (rs_for (T := (.nm 4)) (by rfl) (passes_of rfl) (by rfl) (ri_range1 (by rfl) T.b_range (re_callN C (ok__law_draw T) (by decide) (by rfl) T.g__law_draw T.F__law_draw.kp (bi__law_draw T) (ra_cons (re_var 0) (ra_cons (re_bin (ol_add (by rfl)) (re_var 2) re_int) ra_nil)))) (pg_name (i := 4) sc__law_layers.nd (by rfl) (Or.inl (by rfl))) (rss_cons (rs_par2 (i := 6) (j := 7) (by rfl) sc__law_layers.nd (by rfl) (by rfl) (by decide) (by rfl) (by rfl) (ra_cons (re_callN C (ok__law_pick T) (by decide) (by rfl) T.g__law_pick T.F__law_pick.kp (bi__law_pick T) (ra_cons (re_var 0) (ra_cons (re_var 1) ra_nil))) (ra_cons (re_callN C (ok__law_pick T) (by decide) (by rfl) T.g__law_pick T.F__law_pick.kp (bi__law_pick T) (ra_cons (re_var 0) (ra_cons (re_lst (ra_cons re_non (ra_cons re_non (ra_cons (re_callN C (ok__law_pick T) (by decide) (by rfl) T.g__law_pick T.F__law_pick.kp (bi__law_pick T) (ra_cons (re_var 0) (ra_cons (re_var 1) ra_nil))) ra_nil)))) ra_nil))) ra_nil)))
      (rss_cons (rs_set (i := 5) sc__law_layers.nd (by rfl) (Or.inl (by rfl)) (re_callN C (ok__law_pick T) (by decide) (by rfl) T.g__law_pick T.F__law_pick.kp (bi__law_pick T) (ra_cons (re_var 0) (ra_cons (re_lst (ra_cons re_int (ra_cons re_int (ra_cons (re_bin (ol_add (by rfl)) re_int (re_callN C (ok__law_draw T) (by decide) (by rfl) T.g__law_draw T.F__law_draw.kp (bi__law_draw T) (ra_cons (re_var 0) (ra_cons re_int ra_nil)))) (ra_cons (re_bin (ol_add (by rfl)) (re_bin ol_pow re_int re_int) (re_callN C (ok__law_draw T) (by decide) (by rfl) T.g__law_draw T.F__law_draw.kp (bi__law_draw T) (ra_cons (re_var 0) (ra_cons (re_bin ol_pow re_int re_int) ra_nil)))) ra_nil))))) ra_nil))))
      (rss_one (rs_if (rw_or (rt_cmp (ol_eq (by rfl) C.hu) (re_var 3) (re_lst ra_nil) (nomark _)) (rw_or (rt_cmp (ol_ne (by rfl) C.hu) (re_ix (il_ix (by rfl)) (re_ix (il_ix (by rfl)) (re_var 3) (re_un ul_neg re_int)) re_int) (re_var 6) (nomark _)) (rw_or1 (rt_cmp ol_notN (re_ix (il_ix (by rfl)) (re_ix (il_ix (by rfl)) (re_var 3) (re_un ul_neg re_int)) re_int) re_non (nomark _))))).rt (rss_one (rs_expr (re_bm (by rfl) F.plainAttrs_list F.slot_list_append F.type_list_append (by decide) ml_append (re_var 3) (ra_cons (re_tup (ra_cons (re_var 6) (ra_cons (re_var 5) (ra_cons (re_var 7) ra_nil)))) ra_nil)))) rss_nil)))))
      (rss_one (rs_ret (re_frz (re_var 3)))))))
theorem ok__law_column (T : Tx G mg) : FnG G P w mg base 4 T.a__law_column T.d__law_column ps__law_column (spF m__law_column) :=
  fn_f (k := 3) (f := f__law_column) T.nc T.F__law_column sc__law_column (fun cdv A outer s H E C =>
    (rss_cons (rs_par2 (i := 3) (j := 4) (by rfl) sc__law_column.nd (by rfl) (by rfl) (by decide) (by rfl) (by rfl) (ra_cons (re_callN C (ok__law_pick T) (by decide) (by rfl) T.g__law_pick T.F__law_pick.kp (bi__law_pick T) (ra_cons (re_var 0) (ra_cons (re_lst (ra_cons re_non (ra_cons re_non (ra_cons (re_callN C (ok__law_pick T) (by decide) (by rfl) T.g__law_pick T.F__law_pick.kp (bi__law_pick T) (ra_cons (re_var 0) (ra_cons (re_var 1) ra_nil))) ra_nil)))) ra_nil))) (ra_cons (re_callN C (ok__law_pick T) (by decide) (by rfl) T.g__law_pick T.F__law_pick.kp (bi__law_pick T) (ra_cons (re_var 0) (ra_cons (re_lst (ra_cons re_non (ra_cons (re_callN C (ok__law_pick T) (by decide) (by rfl) T.g__law_pick T.F__law_pick.kp (bi__law_pick T) (ra_cons (re_var 0) (ra_cons (re_var 1) ra_nil))) ra_nil))) ra_nil))) ra_nil)))
      (rss_one (rs_ret (re_tup (ra_cons (re_var 3) (ra_cons (re_callN C (ok__law_level T) (by decide) (by rfl) T.g__law_level T.F__law_level.kp (bi__law_level T) (ra_cons (re_var 0) ra_nil)) (ra_cons (re_var 4) (ra_cons (re_callN C (ok__law_layers T) (by decide) (by rfl) T.g__law_layers T.F__law_layers.kp (bi__law_layers T) (ra_cons (re_var 0) (ra_cons (re_var 1) (ra_cons (re_var 2) ra_nil)))) ra_nil)))))))))
theorem ok_Column___init__ (T : Tx G mg) : FnG G P w mg base 4 T.a_Column___init__ T.d_Column___init__ ps_Column___init__ (spF m_Column___init__) :=
  fn_f (k := 3) (f := f_Column___init__) T.nc T.F_Column___init__ sc_Column___init__ (fun cdv A outer s H E C =>
    (rss_cons (rs_expr (re_callN C (ok_need_level T) (by decide) (by rfl) T.g_need_level T.F_need_level.kp (bi_need_level T) (ra_cons (re_var 1) ra_nil)))
      (rss_cons (rs_if (rt_not (rt_val (re_callN C (ok_are_beds T) (by decide) (by rfl) T.g_are_beds T.F_are_beds.kp (bi_are_beds T) (ra_cons (re_var 2) ra_nil)))) (rss_one (rs_raise (k := 1) C T.K_InvalidBeds (oki_InvalidBeds T) (by decide) (bxi_InvalidBeds T) (by rfl) T.gx_InvalidBeds T.cl_InvalidBeds T.ie_InvalidBeds (ra_cons (re_var 2) ra_nil))) rss_nil)
      (rss_cons (rs_for (T := (.nm 5)) (by rfl) (passes_of rfl) (by rfl) (ri_seq (by rfl) (re_tup (ra_cons (re_var 3) (ra_cons (re_var 4) ra_nil)))) (pg_name (i := 5) sc_Column___init__.nd (by rfl) (Or.inl (by rfl))) (rss_one (rs_if (rt_cmp ol_notN (re_var 5) re_non (nomark _)) (rss_one (rs_expr (re_callN C (ok_need_name T) (by decide) (by rfl) T.g_need_name T.F_need_name.kp (bi_need_name T) (ra_cons (re_var 5) ra_nil)))) rss_nil)))
      (rss_cons (rs_fset T.fs_foot (re_var 0) (re_var 1))
      (rss_cons (rs_fset T.fs_beds (re_var 0) (re_callTy (cl_tuple (by rfl)) (by rfl) T.b_tuple bo_tuple (ra_cons (re_var 2) ra_nil)))
      (rss_cons (rs_fset T.fs_root (re_var 0) (re_var 3))
      (rss_cons (rs_fset T.fs_mark (re_var 0) (re_var 4))
      (rss_one (rs_fset T.fs_top (re_var 0) (re_bin (ol_add (by rfl)) (re_var 1) (re_callB (cl_sum (by rfl) (by rfl)) (by rfl) T.b_sum bo_sum (ra_cons (re_lc (own := [((Str.ofString "rock"), 6), ((Str.ofString "thickness"), 7), ((Str.ofString "own_mark"), 8)]) (T := (.tp [6, 7, 8])) (by rfl) (by rfl) sc_Column___init__.nd (ri_seq (by rfl) (re_var 2)) (blkOk_by (own := [((Str.ofString "rock"), 6), ((Str.ofString "thickness"), 7), ((Str.ofString "own_mark"), 8)]) (N := N_Column___init__) (sc := defScope s_Column___init__) (by decide +kernel)) (by decide) (fun s1 H1 a1 cl1 fp1 => (pg_tup (by rfl) (pgs_cons (pg_name (i := 6) sc_Column___init__.nd (by rfl) (Or.inl (by rfl))) (pgs_cons (pg_name (i := 7) sc_Column___init__.nd (by rfl) (Or.inl (by rfl))) (pgs_cons (pg_name (i := 8) sc_Column___init__.nd (by rfl) (Or.inl (by rfl))) pgs_nil))))) (fun s1 H1 a1 cl1 fp1 => rts_nil) (fun s1 H1 a1 cl1 fp1 => (re_var 7))) ra_nil)))))))))))))
theorem ok__law_built (T : Tx G mg) : FnG G P w mg base 6 T.a__law_built T.d__law_built ps__law_built (spF m__law_built) :=
  fn_f (k := 5) (f := f__law_built) T.nc T.F__law_built sc__law_built (fun cdv A outer s H E C =>
    (rss_one (rs_ret (re_makeK T.nc C T.M_Column (ok_Column___init__ T) (by decide) T.cl_Column T.ie_Column (by rfl) T.gx_Column (bd_Column_2_root_mark T) (ra_cons (re_ix (il_ix (by rfl)) (re_var 0) re_int) (ra_cons (re_ix (il_ix (by rfl)) (re_var 0) re_int) ra_nil)) (rk_cons (re_ix (il_ix (by rfl)) (re_var 0) re_int) (rk_cons (re_ix (il_ix (by rfl)) (re_var 0) re_int) rk_nil))))))
theorem ok__law_told_column (T : Tx G mg) : FnG G P w mg base 1 T.a__law_told_column T.d__law_told_column ps__law_told_column (spF m__law_told_column) :=
  fn_f (k := 0) (f := f__law_told_column) T.nc T.F__law_told_column sc__law_told_column (fun cdv A outer s H E C =>
    (rss_one (rs_ret (re_tup (ra_cons (re_attr T.at_root (re_var 0)) (ra_cons (re_attr T.at_foot (re_var 0)) (ra_cons (re_attr T.at_mark (re_var 0)) (ra_cons (re_callTy (cl_list (by rfl)) (by rfl) T.b_list bo_list (ra_cons (re_attr T.at_beds (re_var 0)) ra_nil)) ra_nil))))))))
theorem ok__law_any (T : Tx G mg) : ∀ n : Nat, FnG G P w mg base (3 + n) T.a__law_any T.d__law_any ps__law_any (spF (m__law_any n))
  | 0 => fn_bad
  | n + 1 => by
    have ih := ok__law_any T n
    refine fn_f (k := 3 + n) (f := f__law_any (m__law_any n)) T.nc T.F__law_any sc__law_any (fun cdv A outer s H E C => ?_)
    exact (rss_cons (rs_set (i := 2) sc__law_any.nd (by rfl) (Or.inl (by rfl)) (re_lst (ra_cons re_non (ra_cons re_bl (ra_cons re_bl (ra_cons re_int (ra_cons re_int (ra_cons (re_un ul_neg re_int) (ra_cons re_int (ra_cons (re_bin ol_pow re_int re_int) (ra_cons re_str (ra_cons re_str (ra_cons re_str (ra_cons re_str (ra_cons re_str (ra_cons re_str (ra_cons re_str (ra_cons re_str (ra_cons re_str ra_nil)))))))))))))))))))
      (rss_cons (rs_set (i := 2) sc__law_any.nd (by rfl) (Or.inl (by rfl)) (re_bin (ol_add (by rfl)) (re_var 2) (re_lst (ra_cons re_str (ra_cons re_str (ra_cons re_str (ra_cons (re_tup ra_nil) (ra_cons (re_lst ra_nil) (ra_cons re_dnew (ra_cons (re_tup (ra_cons re_str (ra_cons re_int (ra_cons re_non ra_nil)))) (ra_cons (re_lst (ra_cons (re_tup (ra_cons re_str (ra_cons re_int (ra_cons re_non ra_nil)))) ra_nil)) (ra_cons (re_tup (ra_cons re_str (ra_cons re_str ra_nil))) (ra_cons (re_dict (rp_cons re_str re_int rp_nil) (by rfl) (by rfl) (fun z => by cases z) (by decide)) ra_nil)))))))))))))
      (rss_cons (rs_if (rt_cmp ol_gt (re_var 1) re_int (nomark _)) (rss_cons (rs_setLc (i := 3) (own := [((Str.ofString "_law_k"), 4)]) (T := (.nm 4)) (by rfl) (by rfl) sc__law_any.nd (by rfl) (by rfl) (sw_true (by rfl) (by rfl) (by rfl) (by decide +kernel)) (ri_range1 (by rfl) T.b_range (re_callN C (ok__law_draw T) (by omega) (by rfl) T.g__law_draw T.F__law_draw.kp (bi__law_draw T) (ra_cons (re_var 0) (ra_cons re_int ra_nil)))) (blkOk_by (own := [((Str.ofString "_law_k"), 4)]) (N := N__law_any) (sc := defScope s__law_any) (by decide +kernel)) (by decide) (fun s1 H1 a1 cl1 fp1 => (pg_name (i := 4) sc__law_any.nd (by rfl) (Or.inl (by rfl)))) (fun s1 H1 a1 cl1 fp1 => rts_nil) (fun s1 H1 a1 cl1 fp1 => have C1 := C.blk s1 H1 _ _ fp1; (re_callN C1 ih (by omega) (by rfl) T.g__law_any T.F__law_any.kp (bi__law_any T) (ra_cons (re_var 0) (ra_cons (re_bin ol_sub (re_var 1) re_int) ra_nil)))))
      (rss_one (rs_set (i := 2) sc__law_any.nd (by rfl) (Or.inl (by rfl)) (re_bin (ol_add (by rfl)) (re_var 2) (re_lst (ra_cons (re_var 3) (ra_cons (re_callTy (cl_tuple (by rfl)) (by rfl) T.b_tuple bo_tuple (ra_cons (re_var 3) ra_nil)) (ra_cons (re_dict (rp_cons re_str (re_callTy (cl_tuple (by rfl)) (by rfl) T.b_tuple bo_tuple (ra_cons (re_var 3) ra_nil)) rp_nil) (by rfl) (by rfl) (fun z => by cases z) (by decide)) ra_nil)))))))) rss_nil)
      (rss_one (rs_ret (re_callN C (ok__law_pick T) (by omega) (by rfl) T.g__law_pick T.F__law_pick.kp (bi__law_pick T) (ra_cons (re_var 0) (ra_cons (re_var 2) ra_nil))))))))
theorem ok__law_is_int (T : Tx G mg) : FnG G P w mg base 1 T.a__law_is_int T.d__law_is_int ps__law_is_int (spF m__law_is_int) :=
  fn_f (k := 0) (f := f__law_is_int) T.nc T.F__law_is_int sc__law_is_int (fun cdv A outer s H E C =>
    (rss_one (rs_ret (re_and (re_callB (cl_isi (by rfl)) (by rfl) T.b_isinstance bo_isinstance (ra_cons (re_var 0) (ra_cons (re_ty (by rfl) T.b_int bo_int) ra_nil))) (re_one (re_not (re_callB (cl_isi (by rfl)) (by rfl) T.b_isinstance bo_isinstance (ra_cons (re_var 0) (ra_cons (re_ty (by rfl) T.b_bool bo_bool) ra_nil)))))))))
theorem ok__law_feed__2 (T : Tx G mg) (hone : Glob.one G = G) : FnG (Glob.two G) P w mg base 1 T.a__law_feed__2 T.d__law_feed__2 ps__law_feed__2 (spF m__law_feed__2) :=
  fn_fN (G := Glob.two G) (k := 0) (ff := f__law_feed__2) T.F__law_feed__2 sc__law_feed__2 (fun cdv A outer s H E hcd C =>
    (rss_one (rs_ret (re_dictC (rp_cons re_str (re_callTy (cl_list (by rfl)) (by rfl) T.b_list bo_list (ra_cons (re_slice (by rfl) (re_var 0) ro_none (ro_some re_int)) ra_nil)) (rp_cons re_str re_int (rp_cons re_str re_int rp_nil))) (by rfl) (by rfl) (fun z => by cases z) (by decide)))))
theorem ok__law_pick__2 (T : Tx G mg) (hone : Glob.one G = G) : FnG (Glob.two G) P w mg base 2 T.a__law_pick__2 T.d__law_pick__2 ps__law_pick__2 (spF m__law_pick__2) :=
  fn_fN (G := Glob.two G) (k := 1) (ff := f__law_pick__2) T.F__law_pick__2 sc__law_pick__2 (fun cdv A outer s H E hcd C =>
    (rss_one (rs_ret (re_ix (il_ix (by rfl)) (re_var 1) (re_callN C (fn_two hone (ok__law_draw T)) (by decide) (by rfl) T.g__law_draw T.F__law_draw.kp (bi__law_draw T) (ra_cons (re_var 0) (ra_cons (re_callB (cl_len (by rfl)) (by rfl) T.b_len bo_len (ra_cons (re_var 1) ra_nil)) ra_nil)))))))
theorem okc__law_caught__2 (TT : ∀ f I a, Tx (G.at f I a) mg) {g : Addr} : CatchR (Glob.two G) P w mg base g (Str.ofString "_law_caught") (Str.ofString "_law_call") N__law_caught__2 (defScope s__law_caught__2) (defBody s__law_caught__2) 7 6 f__law_caught__2 :=
  fun f I0 as0 cdv A outer s H E ACT C act => (have T := TT f I0 as0;
    (have T1 := TT f (fun _ => none) [];
    (rss_one (rs_tryP C (passes_of rfl) (by rfl) (by rfl) (by rfl) sc__law_caught__2.nd (fun W1 pn1 xe1 Ct pt => (rss_one (rs_ret (re_tup (ra_cons re_str (ra_cons (re_lc (own := [((Str.ofString "_law_one"), 2)]) (T := (.nm 2)) (by rfl) (by rfl) sc__law_caught__2.nd (ri_seq (by rfl) (re_attr T.at_columns (act W1 pn1 xe1 _ _ _ Ct (by decide)))) (blkOk_by (own := [((Str.ofString "_law_one"), 2)]) (N := N__law_caught__2) (sc := defScope s__law_caught__2) (by decide +kernel)) (by decide) (fun s1 H1 a1 cl1 fp1 => (pg_name (i := 2) sc__law_caught__2.nd (by rfl) (Or.inl (by rfl)))) (fun s1 H1 a1 cl1 fp1 => rts_nil) (fun s1 H1 a1 cl1 fp1 => have C1 := Ct.blk s1 H1 _ _ fp1; (re_callN C1 (fn_twoC T.nc (ok__law_told_column T1)) (by decide) (by rfl) T1.g__law_told_column T1.F__law_told_column.kp (bi__law_told_column T1) (ra_cons (re_var 2) ra_nil)))) ra_nil)))))) (hd_cons (i := 1) (t := exm_InvalidColumns) (by rfl) (by rfl) ⟨by rfl, by decide, .inl T.gx_InvalidColumns⟩ T.ex_InvalidColumns (fun a => have Ch := C.hot a; (rss_one (rs_ret (re_tup (ra_cons re_str (ra_cons (re_attr T.at_value (re_var 1)) (ra_cons (re_isK (by rfl) (isT_two T.is_ValueError) (.ty _) (re_var 1) (pe_bltn (by rfl) T.b_ValueError bo_ValueError rfl) (by rfl) T.b_isinstance) ra_nil))))))) (hd_cons (i := 1) (t := exm_WrongWidth) (by rfl) (by rfl) ⟨by rfl, by decide, .inl T.gx_WrongWidth⟩ T.ex_WrongWidth (fun a => have Ch := C.hot a; (rss_one (rs_ret (re_tup (ra_cons re_str (ra_cons (re_callB (cl_repr (by rfl) T.sys Ch.gd Ch.hu) (by rfl) T.b_repr bo_repr (ra_cons (re_attr T.at_width (re_var 1)) ra_nil)) (ra_cons (re_isK (by rfl) (isT_two T.is_ValueError) (.ty _) (re_var 1) (pe_bltn (by rfl) T.b_ValueError bo_ValueError rfl) (by rfl) T.b_isinstance) ra_nil))))))) hd_nil))))))
theorem ok_Section___init__ (T : Tx G mg) : FnG G P w mg base 3 T.a_Section___init__ T.d_Section___init__ ps_Section___init__ (spF m_Section___init__) :=
  fn_f (k := 2) (f := f_Section___init__) T.nc T.F_Section___init__ sc_Section___init__ (fun cdv A outer s H E C =>
    (rss_cons (rs_if (rw_or (rt_not (rt_val (re_isi2 (by rfl) (re_var 1) (by rfl) T.b_isinstance (by rfl) T.b_list bo_list (by rfl) T.b_tuple bo_tuple))) (rw_or1 (rt_not (rt_chain ol_le ol_le re_int (re_callB (cl_len (by rfl)) (by rfl) T.b_len bo_len (ra_cons (re_var 1) ra_nil)) (re_con (by rfl) T.con_MOST_COLUMNS (re_var 0)))))).rt (rss_one (rs_raise (k := 1) C T.K_InvalidColumns (oki_InvalidColumns T) (by decide) (bxi_InvalidColumns T) (by rfl) T.gx_InvalidColumns T.cl_InvalidColumns T.ie_InvalidColumns (ra_cons (re_var 1) ra_nil))) rss_nil)
      (rss_cons (rs_if (rt_not (rt_val (re_callB (cl_all (by rfl) (by rfl)) (by rfl) T.b_all bo_all (ra_cons (re_lc (own := [((Str.ofString "column"), 2)]) (T := (.nm 2)) (by rfl) (by rfl) sc_Section___init__.nd (ri_seq (by rfl) (re_var 1)) (blkOk_by (own := [((Str.ofString "column"), 2)]) (N := N_Section___init__) (sc := defScope s_Section___init__) (by decide +kernel)) (by decide) (fun s1 H1 a1 cl1 fp1 => (pg_name (i := 2) sc_Section___init__.nd (by rfl) (Or.inl (by rfl)))) (fun s1 H1 a1 cl1 fp1 => rts_nil) (fun s1 H1 a1 cl1 fp1 => (re_isK (by rfl) T.is_Column (.own _) (re_var 2) (pe_glob (by rfl) T.gx_Column rfl) (by rfl) T.b_isinstance))) ra_nil)))) (rss_one (rs_raise (k := 1) C T.K_InvalidColumns (oki_InvalidColumns T) (by decide) (bxi_InvalidColumns T) (by rfl) T.gx_InvalidColumns T.cl_InvalidColumns T.ie_InvalidColumns (ra_cons (re_var 1) ra_nil))) rss_nil)
      (rss_one (rs_fset T.fs_columns (re_var 0) (re_callTy (cl_tuple (by rfl)) (by rfl) T.b_tuple bo_tuple (ra_cons (re_var 1) ra_nil)))))))
theorem ok_Section___init____2 (T : Tx G mg) (hone : Glob.one G = G) : FnG (Glob.two G) P w mg base 3 T.a_Section___init__ T.d_Section___init__ ps_Section___init____2 (spF m_Section___init____2) :=
  fn_fN (G := Glob.two G) (k := 2) (ff := f_Section___init____2) T.F_Section___init__ sc_Section___init__ (fun cdv A outer s H E hcd C =>
    (rss_cons (rs_if (rw_or (rt_not (rt_val (re_isi2 (by rfl) (re_nrm (re_var 1)) (by rfl) T.b_isinstance (by rfl) T.b_list bo_list (by rfl) T.b_tuple bo_tuple))) (rw_or1 (rt_not (rt_chain ol_le ol_le re_int (re_callB (cl_len (by rfl)) (by rfl) T.b_len bo_len (ra_cons (re_nrm (re_var 1)) ra_nil)) (re_con (G := Glob.two G) (by rfl) T.con_MOST_COLUMNS (re_var 0)))))).rt (rss_one (rs_raise (k := 1) C T.K_InvalidColumns (oki_InvalidColumns T) (by decide) (bxi_InvalidColumns T) (by rfl) T.gx_InvalidColumns T.cl_InvalidColumns T.ie_InvalidColumns (ra_cons (re_lay rfl (re_nrm (re_var 1))) ra_nil))) rss_nil)
      (rss_cons (rs_if (rt_not (rt_val (re_lentC hone (re_callB (cl_all (by rfl) (by rfl)) (by rfl) T.b_all bo_all (ra_cons (re_lc (own := [((Str.ofString "column"), 2)]) (T := (.nm 2)) (by rfl) (by rfl) sc_Section___init__.nd (ri_seq (by rfl) (re_var 1)) (blkOk_by (own := [((Str.ofString "column"), 2)]) (N := N_Section___init____2) (sc := defScope s_Section___init__) (by decide +kernel)) (by decide) (fun s1 H1 a1 cl1 fp1 => (pg_name (i := 2) sc_Section___init__.nd (by rfl) (Or.inl (by rfl)))) (fun s1 H1 a1 cl1 fp1 => rts_nil) (fun s1 H1 a1 cl1 fp1 => (re_isK (by rfl) T.is_Column (.own _) (re_var 2) (pe_glob (by rfl) T.gx_Column rfl) (by rfl) T.b_isinstance))) ra_nil))))) (rss_one (rs_raise (k := 1) C T.K_InvalidColumns (oki_InvalidColumns T) (by decide) (bxi_InvalidColumns T) (by rfl) T.gx_InvalidColumns T.cl_InvalidColumns T.ie_InvalidColumns (ra_cons (re_lay rfl (re_nrm (re_var 1))) ra_nil))) rss_nil)
      (rss_one (rs_fset T.fs_columns (re_var 0) (re_callTy (cl_tuple (by rfl)) (by rfl) T.b_tuple bo_tuple (ra_cons (re_nrm (re_var 1)) ra_nil)))))))
theorem ok_Section_flat (T : Tx G mg) (hcls : mg (Str.ofString "Section") = some (.ref G.fa)) : FnG G P w mg base 6 T.a_Section_flat T.d_Section_flat ps_Section_flat (spF m_Section_flat) :=
  fn_f (k := 5) (f := f_Section_flat) T.nc T.F_Section_flat sc_Section_flat (fun cdv A outer s H E C =>
    (rss_cons (rs_expr (re_callN C (ok_need_width T) (by decide) (by rfl) T.g_need_width T.F_need_width.kp (bi_need_width T) (ra_cons (re_var 1) ra_nil)))
      (rss_one (rs_ret (re_makeC T.nc C (cls_eq hcls T.gx_Section) T.M_Section (ok_Section___init__ T) (by decide) T.cl_Section T.ie_Section (bd_Section_1 T) (re_var 0) (ra_cons (re_lc (own := [((Str.ofString "at"), 2)]) (T := (.nm 2)) (by rfl) (by rfl) sc_Section_flat.nd (ri_range1 (by rfl) T.b_range (re_var 1)) (blkOk_by (own := [((Str.ofString "at"), 2)]) (N := N_Section_flat) (sc := defScope s_Section_flat) (by decide +kernel)) (by decide) (fun s1 H1 a1 cl1 fp1 => (pg_name (i := 2) sc_Section_flat.nd (by rfl) (Or.inl (by rfl)))) (fun s1 H1 a1 cl1 fp1 => rts_nil) (fun s1 H1 a1 cl1 fp1 => have C1 := C.blk s1 H1 _ _ fp1; (re_make0 T.nc C1 T.M_Column (ok_Column___init__ T) (by decide) T.cl_Column T.ie_Column (by rfl) T.gx_Column (bd_Column_0 T)))) ra_nil))))))
theorem ok_Column___eq__ (T : Tx G mg) : FnG G P w mg base 1 T.a_Column___eq__ T.d_Column___eq__ ps_Column___eq__ (spF m_Column___eq__) :=
  fn_f (k := 0) (f := f_Column___eq__) T.nc T.F_Column___eq__ sc_Column___eq__ (fun cdv A outer s H E C =>
    (rss_cons (rs_if (rw_or (rt_not (rt_val (re_isK (by rfl) T.is_Column (.own _) (re_var 1) (pe_glob (by rfl) T.gx_Column rfl) (by rfl) T.b_isinstance))) (rw_or (rt_cmp (ol_ne (by rfl) C.hu) (re_attr T.at_foot (re_var 0)) (re_attr T.at_foot (re_var 1)) (nomark _)) (rw_or1 (rt_cmp (ol_ne (by rfl) C.hu) (re_attr T.at_beds (re_var 0)) (re_attr T.at_beds (re_var 1)) (nomark _))))).rt (rss_one (rs_ret re_bl)) rss_nil)
      (rss_one (rs_ret (re_and (re_cmp (ol_eq (by rfl) C.hu) (re_attr T.at_root (re_var 0)) (re_attr T.at_root (re_var 1)) (nomark _)) (re_one (re_cmp (ol_eq (by rfl) C.hu) (re_attr T.at_mark (re_var 0)) (re_attr T.at_mark (re_var 1)) (nomark _))))))))
theorem ok_Section___eq__ (T : Tx G mg) : FnG G P w mg base 3 T.a_Section___eq__ T.d_Section___eq__ ps_Section___eq__ (spF m_Section___eq__) :=
  fn_f (k := 2) (f := f_Section___eq__) T.nc T.F_Section___eq__ sc_Section___eq__ (fun cdv A outer s H E C =>
    (rss_one (rs_ret (re_and (re_isK (by rfl) T.is_Section (.own _) (re_var 1) (pe_glob (by rfl) T.gx_Section rfl) (by rfl) T.b_isinstance) (re_one (re_cmpX (ox_eqS C (eqC_mk C T.cl_Column T.ie_Column T.mt_Column___eq__ (neB_ok T.ne_Column).1 (neB_ok T.ne_Column).2 (ok_Column___eq__ T) (by decide) (bi_Column___eq__ T))) (re_attr T.at_columns (re_var 0)) (re_attr T.at_columns (re_var 1)) (nomark _)))))))
theorem ok_law (T : Tx G mg) (hone : Glob.one G = G) (TT : ∀ f I a, Tx (G.at f I a) mg) (TB_law : LamX.TabB base mg T.co_law T.pt_law) : FnG (Glob.two G) P w mg base 9 T.a_law T.d_law ps_law (spF m_law) :=
  fn_fN (G := Glob.two G) (k := 8) (ff := f_law) T.F_law sc_law (fun cdv A outer s H E hcd C =>
    (rss_cons (rs_set (i := 1) sc_law.nd (by rfl) (Or.inr (by rfl)) (re_callN C (ok__law_feed__2 T hone) (by decide) (by rfl) T.g__law_feed__2 T.F__law_feed__2.kp (bi__law_feed__2 T) (ra_cons (re_var 0) ra_nil)))
      (rss_cons (rs_for (T := (.nm 2)) (by rfl) (passes_of rfl) (by rfl) (ri_range1 (by rfl) T.b_range (re_bin (ol_add (by rfl)) re_int (re_callB (cl_min2 (by rfl)) (by rfl) T.b_min bo_min (ra_cons re_int (ra_cons (re_callB (cl_len (by rfl)) (by rfl) T.b_len bo_len (ra_cons (re_var 0) ra_nil)) ra_nil))))) (pg_name (i := 2) sc_law.nd (by rfl) (Or.inl (by rfl))) (rss_cons (rs_asgT (is := [11, 12]) (by rfl) (by rfl) (re_tup (ra_cons (re_callN C (fn_two hone (ok__law_pool T)) (by decide) (by rfl) T.g__law_pool T.F__law_pool.kp (bi__law_pool T) (ra_cons (re_var 1) ra_nil)) (ra_cons (re_callN C (ok__law_pick__2 T hone) (by decide) (by rfl) T.g__law_pick__2 T.F__law_pick__2.kp (bi__law_pick__2 T) (ra_cons (re_var 1) (ra_cons (re_lst (ra_cons re_int (ra_cons re_int (ra_cons re_int (ra_cons re_int (ra_cons re_int (ra_cons re_int (ra_cons re_int (ra_cons re_int ra_nil))))))))) ra_nil))) ra_nil))) (pgs_cons (pg_name (i := 11) sc_law.nd (by rfl) (Or.inr (by rfl))) (pgs_cons (pg_name (i := 12) sc_law.nd (by rfl) (Or.inl (by rfl))) pgs_nil)))
      (rss_cons (rs_setLc (i := 3) (own := [((Str.ofString "_law_k"), 14)]) (T := (.nm 14)) (by rfl) (by rfl) sc_law.nd (by rfl) (by rfl) (sw_true (by rfl) (by rfl) (by rfl) (by decide +kernel)) (ri_range1 (by rfl) T.b_range (re_var 12)) (blkOk_by (own := [((Str.ofString "_law_k"), 14)]) (N := N_law) (sc := defScope s_law) (by decide +kernel)) (by decide) (fun s1 H1 a1 cl1 fp1 => (pg_name (i := 14) sc_law.nd (by rfl) (Or.inl (by rfl)))) (fun s1 H1 a1 cl1 fp1 => rts_nil) (fun s1 H1 a1 cl1 fp1 => have C1 := C.blk s1 H1 _ _ fp1; (re_callN C1 (fn_two hone (ok__law_column T)) (by decide) (by rfl) T.g__law_column T.F__law_column.kp (bi__law_column T) (ra_cons (re_var 1) (ra_cons (re_var 11) (ra_cons re_int ra_nil))))))
      (rss_cons (rs_setLcC (i := 4) (own := [((Str.ofString "_law_plain"), 15)]) (T := (.nm 15)) (by rfl) (by rfl) sc_law.nd (by rfl) (by rfl) (sw_true (by rfl) (by rfl) (by rfl) (by decide +kernel)) (ri_seq (by rfl) (re_var 3)) (blkOk_by (own := [((Str.ofString "_law_plain"), 15)]) (N := N_law) (sc := defScope s_law) (by decide +kernel)) (by decide) (fun s1 H1 a1 cl1 fp1 => (pg_name (i := 15) sc_law.nd (by rfl) (Or.inl (by rfl)))) (fun s1 H1 a1 cl1 fp1 => rts_nil) (fun s1 H1 a1 cl1 fp1 => have C1 := C.blk s1 H1 _ _ fp1; (re_callN C1 (fn_two hone (ok__law_built T)) (by decide) (by rfl) T.g__law_built T.F__law_built.kp (bi__law_built T) (ra_cons (re_var 15) ra_nil))))
      (rss_cons (rs_set (i := 5) sc_law.nd (by rfl) (Or.inl (by rfl)) (re_and (re_cmp (ol_eq (by rfl) C.hu) (re_callN C (fn_two hone (ok__law_draw T)) (by decide) (by rfl) T.g__law_draw T.F__law_draw.kp (bi__law_draw T) (ra_cons (re_var 1) (ra_cons re_int ra_nil))) re_int (nomark _)) (re_one (re_cmp ol_gt (re_var 12) re_int (nomark _)))))
      (rss_cons (rs_if (rt_val (re_var 5)) (rss_one (rs_lput (re_var 4) (re_callN C (fn_two hone (ok__law_draw T)) (by decide) (by rfl) T.g__law_draw T.F__law_draw.kp (bi__law_draw T) (ra_cons (re_var 1) (ra_cons (re_var 12) ra_nil))) (re_callN C (fn_two hone (ok__law_any T 3)) (by decide) (by rfl) T.g__law_any T.F__law_any.kp (bi__law_any T) (ra_cons (re_var 1) (ra_cons re_int ra_nil))))) rss_nil)
      (rss_cons (rs_set (i := 6) sc_law.nd (by rfl) (Or.inr (by rfl)) (re_callN C (ok__law_pick__2 T hone) (by decide) (by rfl) T.g__law_pick__2 T.F__law_pick__2.kp (bi__law_pick__2 T) (ra_cons (re_var 1) (ra_cons (re_lst (ra_cons (re_lay rfl (re_var 4)) (ra_cons (re_callTy (cl_tuple (by rfl)) (by rfl) T.b_tuple bo_tuple (ra_cons (re_var 4) ra_nil)) ra_nil))) ra_nil))))
      (rss_cons (rs_set (i := 7) sc_law.nd (by rfl) (Or.inl (by rfl)) (re_lamN (k := 6) (k2 := 7) C (by rfl) T.g__law_caught__2 T.F__law_caught__2 (bi__law_caught__2 T) sc__law_caught__2 rfl (Or.inl rfl) (okc__law_caught__2 TT) (by decide) TB_law (hcd.trans T.cd_law) T.tm_law T.tu_law (LamX.lamS_by (show LamX.lamSB (defScope s_law) _ = true by decide +kernel)) (by rfl) (fun _ _ _ _ _ => rfl) (fun A1 o1 s1 Hp1 E1 f1 c1 CL => (re_frz (re_makeO CL T.M_Section (ok_Section___init____2 T hone) (by decide) T.cl_Section T.ie_Section (by rfl) T.gx_Section (bd_Section_1__2 T) (ra_cons (re_var 6) ra_nil))))))
      (rss_cons (rs_if (rt_cmpX (ox_neP (m := 2) C (by decide) (qtab_cons (eqC_mk (CxG.less (m := 2) C (by decide)) T.cl_Column T.ie_Column T.mt_Column___eq__ (neB_ok T.ne_Column).1 (neB_ok T.ne_Column).2 (fn_two hone (ok_Column___eq__ T)) (by decide) (bi_Column___eq__ T)) qtab_nil)) (re_var 7) (re_ifx (rw_and (rt_chain ol_le ol_le re_int (re_var 12) re_int) (rw_and1 (rt_not (rt_val (re_var 5))))).rt (re_tup (ra_cons re_str (ra_cons (re_var 3) ra_nil))) (re_tup (ra_cons re_str (ra_cons (re_var 6) (ra_cons re_bl ra_nil))))) (nomark _)) (rss_one (rs_ret re_bl)) rss_nil)
      (rss_cons (rs_if (rt_cmp (ol_eq (by rfl) C.hu) (re_ix (il_ix (by rfl)) (re_var 7) re_int) re_str (nomark _)) (rss_cons (rs_set (i := 13) sc_law.nd (by rfl) (Or.inl (by rfl)) (re_makeK02 hone T.nc C T.M_Section (ok_Section___init__ T) (by decide) T.cl_Section T.ie_Section (by rfl) T.gx_Section (bd_Section_0_columns T) (rk_cons (re_var 4) rk_nil)))
      (rss_cons (rs_expr (re_bm (by rfl) F.plainAttrs_list F.slot_list_append F.type_list_append (by decide) ml_append (re_var 4) (ra_cons (re_ix (il_ix (by rfl)) (re_var 4) re_int) ra_nil)))
      (rss_cons (rs_lput (re_var 4) re_int (re_make2 hone T.nc C T.M_Column (ok_Column___init__ T) (by decide) T.cl_Column T.ie_Column (by rfl) T.gx_Column (bd_Column_1 T) (ra_cons re_int ra_nil)))
      (rss_one (rs_if (rt_cmp (ol_ne (by rfl) C.hu) (re_lc (own := [((Str.ofString "_law_one"), 16)]) (T := (.nm 16)) (by rfl) (by rfl) sc_law.nd (ri_seq (by rfl) (re_attr T.at_columns (re_var 13))) (blkOk_by (own := [((Str.ofString "_law_one"), 16)]) (N := N_law) (sc := defScope s_law) (by decide +kernel)) (by decide) (fun s1 H1 a1 cl1 fp1 => (pg_name (i := 16) sc_law.nd (by rfl) (Or.inl (by rfl)))) (fun s1 H1 a1 cl1 fp1 => rts_nil) (fun s1 H1 a1 cl1 fp1 => have C1 := C.blk s1 H1 _ _ fp1; (re_callN C1 (fn_two hone (ok__law_told_column T)) (by decide) (by rfl) T.g__law_told_column T.F__law_told_column.kp (bi__law_told_column T) (ra_cons (re_var 16) ra_nil)))) (re_var 3) (nomark _)) (rss_one (rs_ret re_bl)) rss_nil))))) rss_nil)
      (rss_cons (rs_set (i := 8) sc_law.nd (by rfl) (Or.inr (by rfl)) (re_callN C (fn_two hone (ok__law_any T 3)) (by decide) (by rfl) T.g__law_any T.F__law_any.kp (bi__law_any T) (ra_cons (re_var 1) (ra_cons re_int ra_nil))))
      (rss_cons (rs_if (rt_cmpX (ox_neP (m := 2) C (by decide) (qtab_cons (eqC_mk (CxG.less (m := 2) C (by decide)) T.cl_Column T.ie_Column T.mt_Column___eq__ (neB_ok T.ne_Column).1 (neB_ok T.ne_Column).2 (fn_two hone (ok_Column___eq__ T)) (by decide) (bi_Column___eq__ T)) qtab_nil)) (re_lamN (k := 6) (k2 := 7) C (by rfl) T.g__law_caught__2 T.F__law_caught__2 (bi__law_caught__2 T) sc__law_caught__2 rfl (Or.inl rfl) (okc__law_caught__2 TT) (by decide) TB_law (hcd.trans T.cd_law) T.tm_law T.tu_law (LamX.lamS_by (show LamX.lamSB (defScope s_law) _ = true by decide +kernel)) (by rfl) (fun _ _ _ _ _ => rfl) (fun A1 o1 s1 Hp1 E1 f1 c1 CL => (re_frz (re_makeO CL T.M_Section (ok_Section___init____2 T hone) (by decide) T.cl_Section T.ie_Section (by rfl) T.gx_Section (bd_Section_1__2 T) (ra_cons (re_var 8) ra_nil))))) (re_tup (ra_cons re_str (ra_cons (re_var 8) (ra_cons re_bl ra_nil)))) (nomark _)) (rss_one (rs_ret re_bl)) rss_nil)
      (rss_cons (rs_set (i := 9) sc_law.nd (by rfl) (Or.inr (by rfl)) (re_callN C (ok__law_pick__2 T hone) (by decide) (by rfl) T.g__law_pick__2 T.F__law_pick__2.kp (bi__law_pick__2 T) (ra_cons (re_var 1) (ra_cons (re_lst (ra_cons (re_bin ol_sub (re_callN C (fn_two hone (ok__law_draw T)) (by decide) (by rfl) T.g__law_draw T.F__law_draw.kp (bi__law_draw T) (ra_cons (re_var 1) (ra_cons re_int ra_nil))) re_int) (ra_cons (re_callN C (fn_two hone (ok__law_any T 3)) (by decide) (by rfl) T.g__law_any T.F__law_any.kp (bi__law_any T) (ra_cons (re_var 1) (ra_cons re_int ra_nil))) ra_nil))) ra_nil))))
      (rss_cons (rs_set (i := 10) sc_law.nd (by rfl) (Or.inl (by rfl)) (re_tup (ra_cons re_str (ra_cons (re_callB (cl_repr (by rfl) T.sys C.gd C.hu) (by rfl) T.b_repr bo_repr (ra_cons (re_var 9) ra_nil)) (ra_cons re_bl ra_nil)))))
      (rss_cons (rs_if (rw_and (rt_val (re_callN C (fn_two hone (ok__law_is_int T)) (by decide) (by rfl) T.g__law_is_int T.F__law_is_int.kp (bi__law_is_int T) (ra_cons (re_var 9) ra_nil))) (rw_and1 (rt_chain ol_le ol_le re_int (re_var 9) re_int))).rt (rss_one (rs_set (i := 10) sc_law.nd (by rfl) (Or.inl (by rfl)) (re_tup (ra_cons re_str (ra_cons (re_lc (own := [((Str.ofString "_law_k"), 14)]) (T := (.nm 14)) (by rfl) (by rfl) sc_law.nd (ri_range1 (by rfl) T.b_range (re_var 9)) (blkOk_by (own := [((Str.ofString "_law_k"), 14)]) (N := N_law) (sc := defScope s_law) (by decide +kernel)) (by decide) (fun s1 H1 a1 cl1 fp1 => (pg_name (i := 14) sc_law.nd (by rfl) (Or.inl (by rfl)))) (fun s1 H1 a1 cl1 fp1 => rts_nil) (fun s1 H1 a1 cl1 fp1 => (re_tup (ra_cons re_non (ra_cons re_int (ra_cons re_non (ra_cons (re_lst ra_nil) ra_nil))))))) ra_nil))))) rss_nil)
      (rss_one (rs_if (rt_cmp (ol_ne (by rfl) C.hu) (re_lamN (k := 6) (k2 := 7) C (by rfl) T.g__law_caught__2 T.F__law_caught__2 (bi__law_caught__2 T) sc__law_caught__2 rfl (Or.inl rfl) (okc__law_caught__2 TT) (by decide) TB_law (hcd.trans T.cd_law) T.tm_law T.tu_law (LamX.lamS_by (show LamX.lamSB (defScope s_law) _ = true by decide +kernel)) (by rfl) (fun _ _ _ _ _ => rfl) (fun A1 o1 s1 Hp1 E1 f1 c1 CL => (re_lent hone (have T2 := TT T.x_Section G.I0 G.as0; re_cm (cxg_of2 CL) (cls_eq T2.gx_Section T.gx_Section) (pe_glob (by rfl) T.gx_Section rfl) T2.crd_Section T2.cme_Section_flat (ok_Section_flat T2 T.gx_Section) (by decide) (bi_Section_flat T2) (ra_cons (re_var 9) ra_nil))))) (re_var 10) (nomark _)) (rss_one (rs_ret re_bl)) rss_nil)))))))))))))))))
      (rss_one (rs_ret (re_lent hone (re_and (re_cmp (ol_eq (by rfl) (cxg_of2 C).hu) (re_ccon (by rfl) (pe_glob (by rfl) T.gx_Section rfl) T.crd_Section T.cvl_Section_MOST_COLUMNS.choose_spec) re_int (nomark _)) (re_one (re_cmp (ol_eqO (cxg_of2 C) (eqC_mk (cxg_of2 C) T.cl_Section T.ie_Section T.mt_Section___eq__ (neB_ok T.ne_Section).1 (neB_ok T.ne_Section).2 (ok_Section___eq__ T) (by decide) (bi_Section___eq__ T))) (have T2 := TT T.x_Section G.I0 G.as0; re_cmK (cxg_of2 C) (cls_eq T2.gx_Section T.gx_Section) (pe_glob (by rfl) T.gx_Section rfl) T2.crd_Section T2.cme_Section_flat (ok_Section_flat T2 T.gx_Section) (by decide) (bdm_Section_flat_width T2) (rk_cons re_int rk_nil)) (re_make T.nc (cxg_of2 C) T.M_Section (ok_Section___init__ T) (by decide) T.cl_Section T.ie_Section (by rfl) T.gx_Section (bd_Section_1 T) (ra_cons (re_lst (ra_cons (re_make0 T.nc (cxg_of2 C) T.M_Column (ok_Column___init__ T) (by decide) T.cl_Column T.ie_Column (by rfl) T.gx_Column (bd_Column_0 T)) (ra_cons (re_make0 T.nc (cxg_of2 C) T.M_Column (ok_Column___init__ T) (by decide) T.cl_Column T.ie_Column (by rfl) T.gx_Column (bd_Column_0 T)) (ra_cons (re_make0 T.nc (cxg_of2 C) T.M_Column (ok_Column___init__ T) (by decide) T.cl_Column T.ie_Column (by rfl) T.gx_Column (bd_Column_0 T)) ra_nil)))) ra_nil)) (nomark _))))))))))
end
theorem facts {P : Program} {w : World} {K : PySem.W.Frag} {h : Heap} {mg : Str → Option Value} {f : Addr} (X : K.In h) (G : h.Ns mainGlobals mg) (hfa : mg (Str.ofString "law") = some (.ref f)) (sa : SaysU hdu w K) {cs : List (Addr × Addr)} (ht : TabsIn K h mks cs) (PF : PFile P) :
    ∃ (G : Glob) (fd : FuncData), G.K = K ∧ cs.map (·.2) = G.tabs.map (·.1) ∧ G.I0 = (fun _ => none) ∧ G.as0 = [] ∧ (∀ (s : Shared) (v : Value), BindsTo s fd ⟨[v], []⟩ [((Str.ofString "_law_script"), v)]) ∧ ∀ base : Heap, K.In base → base.Ns mainGlobals mg → (∀ p ∈ cs, LamX.TabB base mg p.1 p.2) → FnG G P w mg base 9 f fd ps_law (spF m_law) := by
  have c := sa.d
  have hy := sa.sys
  have hc := sa.ck
  have hd := sa.dic
  have hln := ht.len
  match cs, hln, ht with
  | [(c0, P0)], _, ht =>
  obtain ⟨d_is_name, F_is_name⟩ := c.def_ 0 (d := dd_is_name) rfl
  obtain ⟨d_is_level, F_is_level⟩ := c.def_ 1 (d := dd_is_level) rfl
  obtain ⟨d_need_name, F_need_name⟩ := c.def_ 2 (d := dd_need_name) rfl
  obtain ⟨d_need_level, F_need_level⟩ := c.def_ 3 (d := dd_need_level) rfl
  obtain ⟨d_is_bed, F_is_bed⟩ := c.def_ 4 (d := dd_is_bed) rfl
  obtain ⟨d_is_same_bed, F_is_same_bed⟩ := c.def_ 5 (d := dd_is_same_bed) rfl
  obtain ⟨d_are_beds, F_are_beds⟩ := c.def_ 6 (d := dd_are_beds) rfl
  obtain ⟨d_need_width, F_need_width⟩ := c.def_ 7 (d := dd_need_width) rfl
  obtain ⟨d__law_draw, F__law_draw⟩ := c.def_ 8 (d := dd__law_draw) rfl
  obtain ⟨d__law_pick, F__law_pick⟩ := c.def_ 9 (d := dd__law_pick) rfl
  obtain ⟨d__law_names, F__law_names⟩ := c.def_ 10 (d := dd__law_names) rfl
  obtain ⟨d__law_level, F__law_level⟩ := c.def_ 11 (d := dd__law_level) rfl
  obtain ⟨d__law_pool, F__law_pool⟩ := c.def_ 12 (d := dd__law_pool) rfl
  obtain ⟨d__law_layers, F__law_layers⟩ := c.def_ 13 (d := dd__law_layers) rfl
  obtain ⟨d__law_column, F__law_column⟩ := c.def_ 14 (d := dd__law_column) rfl
  obtain ⟨d__law_built, F__law_built⟩ := c.def_ 15 (d := dd__law_built) rfl
  obtain ⟨d__law_told_column, F__law_told_column⟩ := c.def_ 16 (d := dd__law_told_column) rfl
  obtain ⟨d__law_any, F__law_any⟩ := c.def_ 17 (d := dd__law_any) rfl
  obtain ⟨d__law_is_int, F__law_is_int⟩ := c.def_ 18 (d := dd__law_is_int) rfl
  obtain ⟨d_law, F_law⟩ := c.def_ 19 (d := dd_law) rfl
  obtain ⟨d_Column___init__, F_Column___init__⟩ := c.def_ 20 (d := dd_Column___init__) rfl
  obtain ⟨d_Column___eq__, F_Column___eq__⟩ := c.def_ 21 (d := dd_Column___eq__) rfl
  obtain ⟨d_Section___init__, F_Section___init__⟩ := c.def_ 22 (d := dd_Section___init__) rfl
  obtain ⟨d_Section___eq__, F_Section___eq__⟩ := c.def_ 23 (d := dd_Section___eq__) rfl
  obtain ⟨d__law_pick__2, F__law_pick__2⟩ := c.def_ 24 (d := dd__law_pick__2) rfl
  obtain ⟨d__law_feed__2, F__law_feed__2⟩ := c.def_ 25 (d := dd__law_feed__2) rfl
  obtain ⟨d__law_caught__2, F__law_caught__2⟩ := c.def_ 26 (d := dd__law_caught__2) rfl
  obtain ⟨d_Section_flat, F_Section_flat⟩ := sa.prp_ 0 (d := (dd_Section_flat, Str.empty)) rfl
  obtain ⟨di_InvalidName, Fi_InvalidName⟩ := c.def_ 27 (d := ddi_InvalidName) rfl
  obtain ⟨di_InvalidLevel, Fi_InvalidLevel⟩ := c.def_ 28 (d := ddi_InvalidLevel) rfl
  obtain ⟨di_InvalidBeds, Fi_InvalidBeds⟩ := c.def_ 29 (d := ddi_InvalidBeds) rfl
  obtain ⟨di_InvalidColumns, Fi_InvalidColumns⟩ := c.def_ 30 (d := ddi_InvalidColumns) rfl
  obtain ⟨di_WrongWidth, Fi_WrongWidth⟩ := c.def_ 31 (d := ddi_WrongWidth) rfl
  let TT : ∀ f I a, Tx ⟨K, clsT K, isET, [(P0, ((Str.ofString "law") ++ ".<locals>.") ++ "<lambda>")], f, false, I, a⟩ mg := fun ff II aa => {
    a_is_name := _,
    d_is_name := d_is_name,
    F_is_name := F_is_name,
    g_is_name := He.glo_ok X G (c.fact 0 rfl),
    a_is_level := _,
    d_is_level := d_is_level,
    F_is_level := F_is_level,
    g_is_level := He.glo_ok X G (c.fact 1 rfl),
    a_need_name := _,
    d_need_name := d_need_name,
    F_need_name := F_need_name,
    g_need_name := He.glo_ok X G (c.fact 2 rfl),
    a_need_level := _,
    d_need_level := d_need_level,
    F_need_level := F_need_level,
    g_need_level := He.glo_ok X G (c.fact 3 rfl),
    a_is_bed := _,
    d_is_bed := d_is_bed,
    F_is_bed := F_is_bed,
    g_is_bed := He.glo_ok X G (c.fact 4 rfl),
    a_is_same_bed := _,
    d_is_same_bed := d_is_same_bed,
    F_is_same_bed := F_is_same_bed,
    g_is_same_bed := He.glo_ok X G (c.fact 5 rfl),
    a_are_beds := _,
    d_are_beds := d_are_beds,
    F_are_beds := F_are_beds,
    g_are_beds := He.glo_ok X G (c.fact 6 rfl),
    a_need_width := _,
    d_need_width := d_need_width,
    F_need_width := F_need_width,
    g_need_width := He.glo_ok X G (c.fact 7 rfl),
    a__law_draw := _,
    d__law_draw := d__law_draw,
    F__law_draw := F__law_draw,
    g__law_draw := He.glo_ok X G (c.fact 8 rfl),
    a__law_pick := _,
    d__law_pick := d__law_pick,
    F__law_pick := F__law_pick,
    g__law_pick := He.glo_ok X G (c.fact 9 rfl),
    a__law_names := _,
    d__law_names := d__law_names,
    F__law_names := F__law_names,
    g__law_names := He.glo_ok X G (c.fact 10 rfl),
    a__law_level := _,
    d__law_level := d__law_level,
    F__law_level := F__law_level,
    g__law_level := He.glo_ok X G (c.fact 11 rfl),
    a__law_pool := _,
    d__law_pool := d__law_pool,
    F__law_pool := F__law_pool,
    g__law_pool := He.glo_ok X G (c.fact 12 rfl),
    a__law_layers := _,
    d__law_layers := d__law_layers,
    F__law_layers := F__law_layers,
    g__law_layers := He.glo_ok X G (c.fact 13 rfl),
    a__law_column := _,
    d__law_column := d__law_column,
    F__law_column := F__law_column,
    g__law_column := He.glo_ok X G (c.fact 14 rfl),
    a__law_built := _,
    d__law_built := d__law_built,
    F__law_built := F__law_built,
    g__law_built := He.glo_ok X G (c.fact 15 rfl),
    a__law_told_column := _,
    d__law_told_column := d__law_told_column,
    F__law_told_column := F__law_told_column,
    g__law_told_column := He.glo_ok X G (c.fact 16 rfl),
    a__law_any := _,
    d__law_any := d__law_any,
    F__law_any := F__law_any,
    g__law_any := He.glo_ok X G (c.fact 17 rfl),
    a__law_is_int := _,
    d__law_is_int := d__law_is_int,
    F__law_is_int := F__law_is_int,
    g__law_is_int := He.glo_ok X G (c.fact 18 rfl),
    a_law := _,
    d_law := d_law,
    F_law := F_law,
    g_law := He.glo_ok X G (c.fact 19 rfl),
    a_Column___init__ := _,
    d_Column___init__ := d_Column___init__,
    F_Column___init__ := F_Column___init__,
    a_Column___eq__ := _,
    d_Column___eq__ := d_Column___eq__,
    F_Column___eq__ := F_Column___eq__,
    a_Section___init__ := _,
    d_Section___init__ := d_Section___init__,
    F_Section___init__ := F_Section___init__,
    a_Section___eq__ := _,
    d_Section___eq__ := d_Section___eq__,
    F_Section___eq__ := F_Section___eq__,
    a_Section_flat := _,
    d_Section_flat := d_Section_flat,
    F_Section_flat := F_Section_flat,
    a__law_pick__2 := _,
    d__law_pick__2 := d__law_pick__2,
    F__law_pick__2 := F__law_pick__2,
    g__law_pick__2 := He.glo_ok X G (c.fact 20 rfl),
    a__law_feed__2 := _,
    d__law_feed__2 := d__law_feed__2,
    F__law_feed__2 := F__law_feed__2,
    g__law_feed__2 := He.glo_ok X G (c.fact 21 rfl),
    a__law_caught__2 := _,
    d__law_caught__2 := d__law_caught__2,
    F__law_caught__2 := F__law_caught__2,
    g__law_caught__2 := He.glo_ok X G (c.fact 22 rfl),
    x_InvalidName := He.ga K (Str.ofString "InvalidName"),
    gx_InvalidName := He.glo_ok X G (c.fact 23 rfl),
    cl_InvalidName := by simp [clsT],
    ie_InvalidName := ie_InvalidName,
    x_InvalidLevel := He.ga K (Str.ofString "InvalidLevel"),
    gx_InvalidLevel := He.glo_ok X G (c.fact 24 rfl),
    cl_InvalidLevel := by simp [clsT],
    ie_InvalidLevel := ie_InvalidLevel,
    x_InvalidBeds := He.ga K (Str.ofString "InvalidBeds"),
    gx_InvalidBeds := He.glo_ok X G (c.fact 25 rfl),
    cl_InvalidBeds := by simp [clsT],
    ie_InvalidBeds := ie_InvalidBeds,
    x_InvalidColumns := He.ga K (Str.ofString "InvalidColumns"),
    gx_InvalidColumns := He.glo_ok X G (c.fact 26 rfl),
    cl_InvalidColumns := by simp [clsT],
    ie_InvalidColumns := ie_InvalidColumns,
    x_WrongWidth := He.ga K (Str.ofString "WrongWidth"),
    gx_WrongWidth := He.glo_ok X G (c.fact 27 rfl),
    cl_WrongWidth := by simp [clsT],
    ie_WrongWidth := ie_WrongWidth,
    ex_InvalidColumns := fun y C h => by
      rcases clsT_cases h with ⟨rfl, rfl⟩ | ⟨rfl, rfl⟩ | ⟨rfl, rfl⟩ | ⟨rfl, rfl⟩ | ⟨rfl, rfl⟩ | ⟨rfl, rfl⟩ | ⟨rfl, rfl⟩
      · rw [show exm_InvalidColumns "InvalidName" = false by decide]; exact He.exm_ok (c.fact 60 rfl)
      · rw [show exm_InvalidColumns "InvalidLevel" = false by decide]; exact He.exm_ok (c.fact 61 rfl)
      · rw [show exm_InvalidColumns "InvalidBeds" = false by decide]; exact He.exm_ok (c.fact 62 rfl)
      · rw [show exm_InvalidColumns "InvalidColumns" = true by decide]; exact He.exm_ok (c.fact 63 rfl)
      · rw [show exm_InvalidColumns "WrongWidth" = false by decide]; exact He.exm_ok (c.fact 64 rfl)
      · rw [show exm_InvalidColumns "Column" = false by decide]; exact He.exm_ok (c.fact 65 rfl)
      · rw [show exm_InvalidColumns "Section" = false by decide]; exact He.exm_ok (c.fact 66 rfl)
,
    ex_WrongWidth := fun y C h => by
      rcases clsT_cases h with ⟨rfl, rfl⟩ | ⟨rfl, rfl⟩ | ⟨rfl, rfl⟩ | ⟨rfl, rfl⟩ | ⟨rfl, rfl⟩ | ⟨rfl, rfl⟩ | ⟨rfl, rfl⟩
      · rw [show exm_WrongWidth "InvalidName" = false by decide]; exact He.exm_ok (c.fact 67 rfl)
      · rw [show exm_WrongWidth "InvalidLevel" = false by decide]; exact He.exm_ok (c.fact 68 rfl)
      · rw [show exm_WrongWidth "InvalidBeds" = false by decide]; exact He.exm_ok (c.fact 69 rfl)
      · rw [show exm_WrongWidth "InvalidColumns" = false by decide]; exact He.exm_ok (c.fact 70 rfl)
      · rw [show exm_WrongWidth "WrongWidth" = true by decide]; exact He.exm_ok (c.fact 71 rfl)
      · rw [show exm_WrongWidth "Column" = false by decide]; exact He.exm_ok (c.fact 72 rfl)
      · rw [show exm_WrongWidth "Section" = false by decide]; exact He.exm_ok (c.fact 73 rfl)
,
    i_InvalidName := He.ma K (He.ga K (Str.ofString "InvalidName")) (Str.ofString "__init__"),
    di_InvalidName := di_InvalidName,
    Fi_InvalidName := Fi_InvalidName,
    K_InvalidName := exB_ok (ck_at hc 0 rfl),
    i_InvalidLevel := He.ma K (He.ga K (Str.ofString "InvalidLevel")) (Str.ofString "__init__"),
    di_InvalidLevel := di_InvalidLevel,
    Fi_InvalidLevel := Fi_InvalidLevel,
    K_InvalidLevel := exB_ok (ck_at hc 2 rfl),
    i_InvalidBeds := He.ma K (He.ga K (Str.ofString "InvalidBeds")) (Str.ofString "__init__"),
    di_InvalidBeds := di_InvalidBeds,
    Fi_InvalidBeds := Fi_InvalidBeds,
    K_InvalidBeds := exB_ok (ck_at hc 4 rfl),
    i_InvalidColumns := He.ma K (He.ga K (Str.ofString "InvalidColumns")) (Str.ofString "__init__"),
    di_InvalidColumns := di_InvalidColumns,
    Fi_InvalidColumns := Fi_InvalidColumns,
    K_InvalidColumns := exB_ok (ck_at hc 6 rfl),
    i_WrongWidth := He.ma K (He.ga K (Str.ofString "WrongWidth")) (Str.ofString "__init__"),
    di_WrongWidth := di_WrongWidth,
    Fi_WrongWidth := Fi_WrongWidth,
    K_WrongWidth := exB_ok (ck_at hc 8 rfl),
    x_Column := He.ga K (Str.ofString "Column"),
    gx_Column := He.glo_ok X G (c.fact 28 rfl),
    cl_Column := by simp [clsT],
    ie_Column := ie_Column,
    M_Column := He.mkr_ok (c.fact 55 rfl),
    clS_Column := He.cls_ok (c.fact 54 rfl),
    x_Section := He.ga K (Str.ofString "Section"),
    gx_Section := He.glo_ok X G (c.fact 29 rfl),
    cl_Section := by simp [clsT],
    ie_Section := ie_Section,
    M_Section := He.mkr_ok (c.fact 57 rfl),
    clS_Section := He.cls_ok (c.fact 56 rfl),
    is_Column := isT_mk2 (fun y hm C h => by
      rcases clsT_cases h with ⟨rfl, rfl⟩ | ⟨rfl, rfl⟩ | ⟨rfl, rfl⟩ | ⟨rfl, rfl⟩ | ⟨rfl, rfl⟩ | ⟨rfl, rfl⟩ | ⟨rfl, rfl⟩
      · exact ⟨ck_at hc 13 rfl, .inr ⟨ie_InvalidName, ck_at hc 1 rfl⟩, ck_at hc 20 rfl⟩
      · exact ⟨ck_at hc 14 rfl, .inr ⟨ie_InvalidLevel, ck_at hc 3 rfl⟩, ck_at hc 21 rfl⟩
      · exact ⟨ck_at hc 15 rfl, .inr ⟨ie_InvalidBeds, ck_at hc 5 rfl⟩, ck_at hc 22 rfl⟩
      · exact ⟨ck_at hc 16 rfl, .inr ⟨ie_InvalidColumns, ck_at hc 7 rfl⟩, ck_at hc 23 rfl⟩
      · exact ⟨ck_at hc 17 rfl, .inr ⟨ie_WrongWidth, ck_at hc 9 rfl⟩, ck_at hc 24 rfl⟩
      · exact ⟨ck_at hc 11 rfl, .inl ⟨ie_Column, He.cls_ok (c.fact 54 rfl)⟩, ck_at hc 18 rfl⟩
      · exact ⟨ck_at hc 12 rfl, .inl ⟨ie_Section, He.cls_ok (c.fact 56 rfl)⟩, ck_at hc 19 rfl⟩
      ) (ck_at hc 25 rfl),
    is_Section := isT_mk2 (fun y hm C h => by
      rcases clsT_cases h with ⟨rfl, rfl⟩ | ⟨rfl, rfl⟩ | ⟨rfl, rfl⟩ | ⟨rfl, rfl⟩ | ⟨rfl, rfl⟩ | ⟨rfl, rfl⟩ | ⟨rfl, rfl⟩
      · exact ⟨ck_at hc 13 rfl, .inr ⟨ie_InvalidName, ck_at hc 1 rfl⟩, ck_at hc 28 rfl⟩
      · exact ⟨ck_at hc 14 rfl, .inr ⟨ie_InvalidLevel, ck_at hc 3 rfl⟩, ck_at hc 29 rfl⟩
      · exact ⟨ck_at hc 15 rfl, .inr ⟨ie_InvalidBeds, ck_at hc 5 rfl⟩, ck_at hc 30 rfl⟩
      · exact ⟨ck_at hc 16 rfl, .inr ⟨ie_InvalidColumns, ck_at hc 7 rfl⟩, ck_at hc 31 rfl⟩
      · exact ⟨ck_at hc 17 rfl, .inr ⟨ie_WrongWidth, ck_at hc 9 rfl⟩, ck_at hc 32 rfl⟩
      · exact ⟨ck_at hc 11 rfl, .inl ⟨ie_Column, He.cls_ok (c.fact 54 rfl)⟩, ck_at hc 26 rfl⟩
      · exact ⟨ck_at hc 12 rfl, .inl ⟨ie_Section, He.cls_ok (c.fact 56 rfl)⟩, ck_at hc 27 rfl⟩
      ) (ck_at hc 33 rfl),
    is_ValueError := isT_mk2 (fun y hm C h => by
      rcases clsT_cases h with ⟨rfl, rfl⟩ | ⟨rfl, rfl⟩ | ⟨rfl, rfl⟩ | ⟨rfl, rfl⟩ | ⟨rfl, rfl⟩ | ⟨rfl, rfl⟩ | ⟨rfl, rfl⟩
      · exact ⟨ck_at hc 13 rfl, .inr ⟨ie_InvalidName, ck_at hc 1 rfl⟩, ck_at hc 36 rfl⟩
      · exact ⟨ck_at hc 14 rfl, .inr ⟨ie_InvalidLevel, ck_at hc 3 rfl⟩, ck_at hc 37 rfl⟩
      · exact ⟨ck_at hc 15 rfl, .inr ⟨ie_InvalidBeds, ck_at hc 5 rfl⟩, ck_at hc 38 rfl⟩
      · exact ⟨ck_at hc 16 rfl, .inr ⟨ie_InvalidColumns, ck_at hc 7 rfl⟩, ck_at hc 39 rfl⟩
      · exact ⟨ck_at hc 17 rfl, .inr ⟨ie_WrongWidth, ck_at hc 9 rfl⟩, ck_at hc 40 rfl⟩
      · exact ⟨ck_at hc 11 rfl, .inl ⟨ie_Column, He.cls_ok (c.fact 54 rfl)⟩, ck_at hc 34 rfl⟩
      · exact ⟨ck_at hc 12 rfl, .inl ⟨ie_Section, He.cls_ok (c.fact 56 rfl)⟩, ck_at hc 35 rfl⟩
      ) (ck_at hc 41 rfl),
    ne_Column := ck_at hc 46 rfl,
    ne_Section := ck_at hc 47 rfl,
    mt_Column___eq__ := He.meth_ok (c.fact 58 rfl),
    mt_Section___eq__ := He.meth_ok (c.fact 59 rfl),
    at_beds := fun y hm C h => by
      rcases clsT_cases h with ⟨rfl, rfl⟩ | ⟨rfl, rfl⟩ | ⟨rfl, rfl⟩ | ⟨rfl, rfl⟩ | ⟨rfl, rfl⟩ | ⟨rfl, rfl⟩ | ⟨rfl, rfl⟩
      · exact absurd hm (by decide)
      · exact absurd hm (by decide)
      · exact absurd hm (by decide)
      · exact absurd hm (by decide)
      · exact absurd hm (by decide)
      · exact ⟨He.noat_ok (c.fact 74 rfl), ⟨fun e => absurd (ie_Column.symm.trans e) (by decide), fun _ => He.cls_ok (c.fact 54 rfl)⟩⟩
      · exact absurd hm (by decide)
,
    fs_beds := fun y hm C h => by
      rcases clsT_cases h with ⟨rfl, rfl⟩ | ⟨rfl, rfl⟩ | ⟨rfl, rfl⟩ | ⟨rfl, rfl⟩ | ⟨rfl, rfl⟩ | ⟨rfl, rfl⟩ | ⟨rfl, rfl⟩
      · exact absurd hm (by decide)
      · exact absurd hm (by decide)
      · exact absurd hm (by decide)
      · exact absurd hm (by decide)
      · exact absurd hm (by decide)
      · exact ⟨He.cls_ok (c.fact 54 rfl), He.noat_ok (c.fact 74 rfl)⟩
      · exact absurd hm (by decide)
,
    at_mark := fun y hm C h => by
      rcases clsT_cases h with ⟨rfl, rfl⟩ | ⟨rfl, rfl⟩ | ⟨rfl, rfl⟩ | ⟨rfl, rfl⟩ | ⟨rfl, rfl⟩ | ⟨rfl, rfl⟩ | ⟨rfl, rfl⟩
      · exact absurd hm (by decide)
      · exact absurd hm (by decide)
      · exact absurd hm (by decide)
      · exact absurd hm (by decide)
      · exact absurd hm (by decide)
      · exact ⟨He.noat_ok (c.fact 75 rfl), ⟨fun e => absurd (ie_Column.symm.trans e) (by decide), fun _ => He.cls_ok (c.fact 54 rfl)⟩⟩
      · exact absurd hm (by decide)
,
    fs_mark := fun y hm C h => by
      rcases clsT_cases h with ⟨rfl, rfl⟩ | ⟨rfl, rfl⟩ | ⟨rfl, rfl⟩ | ⟨rfl, rfl⟩ | ⟨rfl, rfl⟩ | ⟨rfl, rfl⟩ | ⟨rfl, rfl⟩
      · exact absurd hm (by decide)
      · exact absurd hm (by decide)
      · exact absurd hm (by decide)
      · exact absurd hm (by decide)
      · exact absurd hm (by decide)
      · exact ⟨He.cls_ok (c.fact 54 rfl), He.noat_ok (c.fact 75 rfl)⟩
      · exact absurd hm (by decide)
,
    at_foot := fun y hm C h => by
      rcases clsT_cases h with ⟨rfl, rfl⟩ | ⟨rfl, rfl⟩ | ⟨rfl, rfl⟩ | ⟨rfl, rfl⟩ | ⟨rfl, rfl⟩ | ⟨rfl, rfl⟩ | ⟨rfl, rfl⟩
      · exact absurd hm (by decide)
      · exact absurd hm (by decide)
      · exact absurd hm (by decide)
      · exact absurd hm (by decide)
      · exact absurd hm (by decide)
      · exact ⟨He.noat_ok (c.fact 76 rfl), ⟨fun e => absurd (ie_Column.symm.trans e) (by decide), fun _ => He.cls_ok (c.fact 54 rfl)⟩⟩
      · exact absurd hm (by decide)
,
    fs_foot := fun y hm C h => by
      rcases clsT_cases h with ⟨rfl, rfl⟩ | ⟨rfl, rfl⟩ | ⟨rfl, rfl⟩ | ⟨rfl, rfl⟩ | ⟨rfl, rfl⟩ | ⟨rfl, rfl⟩ | ⟨rfl, rfl⟩
      · exact absurd hm (by decide)
      · exact absurd hm (by decide)
      · exact absurd hm (by decide)
      · exact absurd hm (by decide)
      · exact absurd hm (by decide)
      · exact ⟨He.cls_ok (c.fact 54 rfl), He.noat_ok (c.fact 76 rfl)⟩
      · exact absurd hm (by decide)
,
    at_root := fun y hm C h => by
      rcases clsT_cases h with ⟨rfl, rfl⟩ | ⟨rfl, rfl⟩ | ⟨rfl, rfl⟩ | ⟨rfl, rfl⟩ | ⟨rfl, rfl⟩ | ⟨rfl, rfl⟩ | ⟨rfl, rfl⟩
      · exact absurd hm (by decide)
      · exact absurd hm (by decide)
      · exact absurd hm (by decide)
      · exact absurd hm (by decide)
      · exact absurd hm (by decide)
      · exact ⟨He.noat_ok (c.fact 77 rfl), ⟨fun e => absurd (ie_Column.symm.trans e) (by decide), fun _ => He.cls_ok (c.fact 54 rfl)⟩⟩
      · exact absurd hm (by decide)
,
    fs_root := fun y hm C h => by
      rcases clsT_cases h with ⟨rfl, rfl⟩ | ⟨rfl, rfl⟩ | ⟨rfl, rfl⟩ | ⟨rfl, rfl⟩ | ⟨rfl, rfl⟩ | ⟨rfl, rfl⟩ | ⟨rfl, rfl⟩
      · exact absurd hm (by decide)
      · exact absurd hm (by decide)
      · exact absurd hm (by decide)
      · exact absurd hm (by decide)
      · exact absurd hm (by decide)
      · exact ⟨He.cls_ok (c.fact 54 rfl), He.noat_ok (c.fact 77 rfl)⟩
      · exact absurd hm (by decide)
,
    at_columns := fun y hm C h => by
      rcases clsT_cases h with ⟨rfl, rfl⟩ | ⟨rfl, rfl⟩ | ⟨rfl, rfl⟩ | ⟨rfl, rfl⟩ | ⟨rfl, rfl⟩ | ⟨rfl, rfl⟩ | ⟨rfl, rfl⟩
      · exact absurd hm (by decide)
      · exact absurd hm (by decide)
      · exact absurd hm (by decide)
      · exact absurd hm (by decide)
      · exact absurd hm (by decide)
      · exact absurd hm (by decide)
      · exact ⟨He.noat_ok (c.fact 78 rfl), ⟨fun e => absurd (ie_Section.symm.trans e) (by decide), fun _ => He.cls_ok (c.fact 56 rfl)⟩⟩
,
    fs_columns := fun y hm C h => by
      rcases clsT_cases h with ⟨rfl, rfl⟩ | ⟨rfl, rfl⟩ | ⟨rfl, rfl⟩ | ⟨rfl, rfl⟩ | ⟨rfl, rfl⟩ | ⟨rfl, rfl⟩ | ⟨rfl, rfl⟩
      · exact absurd hm (by decide)
      · exact absurd hm (by decide)
      · exact absurd hm (by decide)
      · exact absurd hm (by decide)
      · exact absurd hm (by decide)
      · exact absurd hm (by decide)
      · exact ⟨He.cls_ok (c.fact 56 rfl), He.noat_ok (c.fact 78 rfl)⟩
,
    at_top := fun y hm C h => by
      rcases clsT_cases h with ⟨rfl, rfl⟩ | ⟨rfl, rfl⟩ | ⟨rfl, rfl⟩ | ⟨rfl, rfl⟩ | ⟨rfl, rfl⟩ | ⟨rfl, rfl⟩ | ⟨rfl, rfl⟩
      · exact absurd hm (by decide)
      · exact absurd hm (by decide)
      · exact absurd hm (by decide)
      · exact absurd hm (by decide)
      · exact absurd hm (by decide)
      · exact ⟨He.noat_ok (c.fact 79 rfl), ⟨fun e => absurd (ie_Column.symm.trans e) (by decide), fun _ => He.cls_ok (c.fact 54 rfl)⟩⟩
      · exact absurd hm (by decide)
,
    fs_top := fun y hm C h => by
      rcases clsT_cases h with ⟨rfl, rfl⟩ | ⟨rfl, rfl⟩ | ⟨rfl, rfl⟩ | ⟨rfl, rfl⟩ | ⟨rfl, rfl⟩ | ⟨rfl, rfl⟩ | ⟨rfl, rfl⟩
      · exact absurd hm (by decide)
      · exact absurd hm (by decide)
      · exact absurd hm (by decide)
      · exact absurd hm (by decide)
      · exact absurd hm (by decide)
      · exact ⟨He.cls_ok (c.fact 54 rfl), He.noat_ok (c.fact 79 rfl)⟩
      · exact absurd hm (by decide)
,
    at_width := fun y hm C h => by
      rcases clsT_cases h with ⟨rfl, rfl⟩ | ⟨rfl, rfl⟩ | ⟨rfl, rfl⟩ | ⟨rfl, rfl⟩ | ⟨rfl, rfl⟩ | ⟨rfl, rfl⟩ | ⟨rfl, rfl⟩
      · exact absurd hm (by decide)
      · exact absurd hm (by decide)
      · exact absurd hm (by decide)
      · exact absurd hm (by decide)
      · exact ⟨He.noat_ok (c.fact 80 rfl), ⟨fun _ => xfB_ok (ck_at hc 9 rfl), fun e => absurd (ie_WrongWidth.symm.trans e) (by decide)⟩⟩
      · exact absurd hm (by decide)
      · exact absurd hm (by decide)
,
    fs_width := fun y hm C h => by
      rcases clsT_cases h with ⟨rfl, rfl⟩ | ⟨rfl, rfl⟩ | ⟨rfl, rfl⟩ | ⟨rfl, rfl⟩ | ⟨rfl, rfl⟩ | ⟨rfl, rfl⟩ | ⟨rfl, rfl⟩
      · exact absurd hm (by decide)
      · exact absurd hm (by decide)
      · exact absurd hm (by decide)
      · exact absurd hm (by decide)
      · exact absurd hm (by decide)
      · exact absurd hm (by decide)
      · exact absurd hm (by decide)
,
    at_value := fun y hm C h => by
      rcases clsT_cases h with ⟨rfl, rfl⟩ | ⟨rfl, rfl⟩ | ⟨rfl, rfl⟩ | ⟨rfl, rfl⟩ | ⟨rfl, rfl⟩ | ⟨rfl, rfl⟩ | ⟨rfl, rfl⟩
      · exact ⟨He.noat_ok (c.fact 81 rfl), ⟨fun _ => xfB_ok (ck_at hc 1 rfl), fun e => absurd (ie_InvalidName.symm.trans e) (by decide)⟩⟩
      · exact ⟨He.noat_ok (c.fact 82 rfl), ⟨fun _ => xfB_ok (ck_at hc 3 rfl), fun e => absurd (ie_InvalidLevel.symm.trans e) (by decide)⟩⟩
      · exact ⟨He.noat_ok (c.fact 83 rfl), ⟨fun _ => xfB_ok (ck_at hc 5 rfl), fun e => absurd (ie_InvalidBeds.symm.trans e) (by decide)⟩⟩
      · exact ⟨He.noat_ok (c.fact 84 rfl), ⟨fun _ => xfB_ok (ck_at hc 7 rfl), fun e => absurd (ie_InvalidColumns.symm.trans e) (by decide)⟩⟩
      · exact absurd hm (by decide)
      · exact absurd hm (by decide)
      · exact absurd hm (by decide)
,
    fs_value := fun y hm C h => by
      rcases clsT_cases h with ⟨rfl, rfl⟩ | ⟨rfl, rfl⟩ | ⟨rfl, rfl⟩ | ⟨rfl, rfl⟩ | ⟨rfl, rfl⟩ | ⟨rfl, rfl⟩ | ⟨rfl, rfl⟩
      · exact absurd hm (by decide)
      · exact absurd hm (by decide)
      · exact absurd hm (by decide)
      · exact absurd hm (by decide)
      · exact absurd hm (by decide)
      · exact absurd hm (by decide)
      · exact absurd hm (by decide)
,
    con_MOST_COLUMNS := fun y hm C h => by
      rcases clsT_cases h with ⟨rfl, rfl⟩ | ⟨rfl, rfl⟩ | ⟨rfl, rfl⟩ | ⟨rfl, rfl⟩ | ⟨rfl, rfl⟩ | ⟨rfl, rfl⟩ | ⟨rfl, rfl⟩
      · exact absurd hm (by decide)
      · exact absurd hm (by decide)
      · exact absurd hm (by decide)
      · exact absurd hm (by decide)
      · exact absurd hm (by decide)
      · exact absurd hm (by decide)
      · exact ⟨He.cls_ok (c.fact 56 rfl), ie_Section, ck_at hc 42 rfl⟩
,
    crd_Section := creadB_ok (ck_at hc 43 rfl),
    pp_Section_flat := _,
    cme_Section_flat := cmetB_ok (ck_at hc 44 rfl),
    cvl_Section_MOST_COLUMNS := cvalB_ok (ck_at hc 45 rfl),
    dt_Column___init___1 := ck_at hc 10 rfl,
    sys := hy,
    nc := rfl,
    co_law := c0,
    pt_law := P0,
    cd_law := code_of F_law (ht.at_ _ (show _ ∈ _ from List.Mem.head _)).2.2,
    tm_law := List.Mem.head _,
    tu_law := (fun p hp _ => by cases hp with | head => rfl | tail _ z => cases z),
    b_ValueError := He.free_ok X G (c.fact 30 rfl),
    b_abs := He.free_ok X G (c.fact 31 rfl),
    b_all := He.free_ok X G (c.fact 32 rfl),
    b_any := He.free_ok X G (c.fact 33 rfl),
    b_bool := He.free_ok X G (c.fact 34 rfl),
    b_int := He.free_ok X G (c.fact 35 rfl),
    b_isinstance := He.free_ok X G (c.fact 36 rfl),
    b_len := He.free_ok X G (c.fact 37 rfl),
    b_list := He.free_ok X G (c.fact 38 rfl),
    b_min := He.free_ok X G (c.fact 39 rfl),
    b_range := He.free_ok X G (c.fact 40 rfl),
    b_repr := He.free_ok X G (c.fact 41 rfl),
    b_str := He.free_ok X G (c.fact 42 rfl),
    b_sum := He.free_ok X G (c.fact 43 rfl),
    b_tuple := He.free_ok X G (c.fact 44 rfl),
    b_zip := He.free_ok X G (c.fact 45 rfl),
    c_LETTERS := He.str_ok X G (c.fact 46 rfl),
    c_LONGEST_NAME := He.int_ok X G (c.fact 47 rfl),
    c_DIGITS := He.str_ok X G (c.fact 48 rfl),
    c_MOST_DIGITS := He.int_ok X G (c.fact 49 rfl),
    c_MOST_COLUMNS := He.int_ok X G (c.fact 50 rfl),
    c_MARK := He.str_ok X G (c.fact 51 rfl),
    c_ROOT := He.str_ok X G (c.fact 52 rfl),
    c_THICKNESS := He.str_ok X G (c.fact 53 rfl) }
  let T := TT 0 (fun _ => none) []
  have e := hfa.symm.trans T.g_law
  cases e
  have b := FunD.bindsA (ps := ps_law) T.F_law fun _ _ _ _ _ _ us hl => match us, hl with | [_], _ => rfl
  exact ⟨⟨K, clsT K, isET, [(P0, ((Str.ofString "law") ++ ".<locals>.") ++ "<lambda>")], 0, true, fun _ => none, []⟩, T.d_law, rfl, rfl, rfl, rfl, fun s v => b s [v] rfl, fun base _ _ tb => ok_law T rfl TT (tb _ (List.Mem.head _))⟩
end RB.F
open PySem PySem.W PySem.Calls PyProof.Rows
set_option maxRecDepth 100000 in
set_option maxHeartbeats 0 in
theorem PySem.Challenge.cw_rockbeds_k09_sections_made_and_refused_holds : PySem.Challenge.rw_rockbeds_k09_sections_made_and_refused.Holds := by
  w_on; o_law
  refine HandSHeadRun.head_any (r := OpenLaw.row PySem.Challenge.rw_rockbeds_k09_sections_made_and_refused) (q := view (OpenLaw.row PySem.Challenge.rw_rockbeds_k09_sections_made_and_refused).prog [56]) (H := RB.F.hk) (ob := RB.F.ob) (M := 40000) (loose := RB.F.loose) (d := HandSHeadRun.topDef (OpenLaw.row PySem.Challenge.rw_rockbeds_k09_sections_made_and_refused).prog 56) (kwd := []) RB.F.ob_eq
    (by kernel_rfl) (fun s => by kernel_rfl) RB.F.run (by kernel_rfl) (by kernel_rfl) (by kernel_rfl) (by rfl) (by first | assumption | decide +kernel) (by decide +kernel) ⟨rfl, rfl, rfl, rfl, rfl, by decide +kernel⟩ ?hw ?hc
  case hw => w_witness2
  case hc =>
    refine RB.walk_g (l := PySem.Challenge.rw_rockbeds_k09_sections_made_and_refused) (n := 63) (k := 9) (x := (PySem.Str.ofString "_law_script")) rfl (by decide) (by kernel_rfl) ⟨rfl, by decide, by decide⟩ ?F
    intro w mg fa h Y G hmg0
    obtain ⟨K, KX, sa, cs, ht⟩ := Y
    have hmg : mg (PySem.Str.ofString "law") = some (.ref fa) := by
      have e : (HandSHeadRun.topDef (OpenLaw.row PySem.Challenge.rw_rockbeds_k09_sections_made_and_refused).prog 56).name = (PySem.Str.ofString "law") := by kernel_rfl
      rw [← e]
      exact hmg0
    obtain ⟨Gb, fd, hK, eT, e0, e1, hb, hF⟩ := RB.F.facts (P := (PySem.Challenge.rw_rockbeds_k09_sections_made_and_refused).prog) (w := w) KX G hmg sa ht ⟨by exact beq_self_eq_true _, by kernel_rfl⟩
    subst hK
    exact ⟨Gb, fd, (RB.F.spF RB.F.m_law), cs, KX, eT, e0, e1, fun p hp => (ht.of hp).1, ht.out, fun p hp => (ht.of hp).2, hb, fun ns hl => RB.F.law_true ns hl, hF⟩
