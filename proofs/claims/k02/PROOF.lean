import PyProof.Rows.All
import Wide.All
import OpenK.AllK
import Wide.FinOn
import HandS.ForMost
import HandS.ForExc
import HandS.IsInst
import HandS.Flow
import HandS.Walk
import HandS.Wide
import HandS.TupLe
import HandS.Defaults
import HandS.TryMany
import HandS.More
import HandS.FStr
import HandS.TupAny
import HandS.EndBits
import HandS.Head0
import HandS.Head1
import HandS.Head2
import HandS.HeadEnd
import HandS.HeadHook1
import HandS.HeadHook2
import PySem.Challenge.RW_rockbeds_k02_names_and_levels
set_option Elab.async false
set_option linter.all false
set_option maxRecDepth 100000
set_option maxHeartbeats 4000000
/-! The lifted layer: pure data, a store of changing things, and how they stand in the abstract heap. -/
namespace RB
open PySem PySem.Spec PyProof.Rows L2

/-- data that never changes -/
inductive P where
  | non | bl (b : Bool) | int (i : Int) | str (x : Str) | ty (n : String)
  | tup (xs : List P) | lst (xs : List P) | scr (xs : List P)
  | dK (ks : List Key) (vs : List P)
  | dT (ks : List (List Key)) (vs : List P)
  | obj (c : String) (ns : List Str) (vs : List P)

/-- a value: data, or a thing of the store -/
inductive D where
  | p (p : P)
  | cell (n : Nat)

/-- a thing that changes -/
inductive Cell where
  | lst (xs : List P)
  | dK (ks : List Key) (vs : List P)
  | obj (c : String) (ns : List Str) (vs : List P)
  | dead

abbrev Store := List Cell
abbrev Rho := List (Option D)

structure Exc where
  c : String
  ns : List Str
  vs : List P

structure Glob where
  K : PySem.W.Frag
  cls : String → Option Addr

mutual
def Rep (G : Glob) (I : Hp) : V → P → Prop
  | v, .non => v = .non
  | v, .bl b => v = .bl b
  | v, .int i => v = .int i
  | v, .str x => v = .str x
  | v, .ty n => v = .ty n
  | v, .tup ds => ∃ a vs, v = .ref a ∧ SqT G.K I a vs ∧ Reps G I vs ds
  | v, .lst ds => ∃ a vs, v = .ref a ∧ I a = some (.lst vs) ∧ Reps G I vs ds
  | v, .scr ds => ∃ a vs, v = .ref a ∧ SqL G.K I a vs ∧ Reps G I vs ds
  | v, .dK ks ds => ∃ a kvs, v = .ref a ∧ I a = some (.dK kvs) ∧ kvs.map (·.1) = ks ∧ Reps G I (kvs.map (·.2)) ds
  | v, .dT ks ds => ∃ a kvs, v = .ref a ∧ I a = some (.dT kvs) ∧ kvs.map (·.1) = ks ∧ Reps G I (kvs.map (·.2)) ds
  | v, .obj c ns ds => ∃ a C dx fs, v = .ref a ∧ G.cls c = some C ∧ I a = some (.ins C dx fs) ∧ fs.map (·.1) = ns ∧ Reps G I (fs.map (·.2)) ds
def Reps (G : Glob) (I : Hp) : List V → List P → Prop
  | vs, [] => vs = []
  | vs, d :: ds => ∃ v r, vs = v :: r ∧ Rep G I v d ∧ Reps G I r ds
end

theorem Same.tup {K : PySem.W.Frag} {H H' : Hp} {a : Addr} {xs : List V} (e : Same H H') (h : SqT K H a xs) : SqT K H' a xs := by
  rcases h with (h | ⟨o, h⟩) | h
  · exact .inl (.inl (e _ _ h))
  · exact .inl (.inr ⟨o, e _ _ h⟩)
  · exact .inr h

mutual
theorem Rep.mono {G : Glob} {I I' : Hp} (s : Same I I') : ∀ {d : P} {v : V}, Rep G I v d → Rep G I' v d
  | .non, _, h => by simpa only [Rep] using h
  | .bl _, _, h => by simpa only [Rep] using h
  | .int _, _, h => by simpa only [Rep] using h
  | .str _, _, h => by simpa only [Rep] using h
  | .ty _, _, h => by simpa only [Rep] using h
  | .tup ds, _, h => by
    simp only [Rep] at h ⊢
    obtain ⟨a, vs, e, q, r⟩ := h
    exact ⟨a, vs, e, Same.tup s q, Reps.mono s r⟩
  | .lst ds, _, h => by
    simp only [Rep] at h ⊢
    obtain ⟨a, vs, e, q, r⟩ := h
    exact ⟨a, vs, e, s _ _ q, Reps.mono s r⟩
  | .scr ds, _, h => by
    simp only [Rep] at h ⊢
    obtain ⟨a, vs, e, q, r⟩ := h
    exact ⟨a, vs, e, Same.seq s q, Reps.mono s r⟩
  | .dK ks ds, _, h => by
    simp only [Rep] at h ⊢
    obtain ⟨a, vs, e, q, k, r⟩ := h
    exact ⟨a, vs, e, s _ _ q, k, Reps.mono s r⟩
  | .dT ks ds, _, h => by
    simp only [Rep] at h ⊢
    obtain ⟨a, vs, e, q, k, r⟩ := h
    exact ⟨a, vs, e, s _ _ q, k, Reps.mono s r⟩
  | .obj c ns ds, _, h => by
    simp only [Rep] at h ⊢
    obtain ⟨a, C, dx, fs, e, g, q, k, r⟩ := h
    exact ⟨a, C, dx, fs, e, g, s _ _ q, k, Reps.mono s r⟩
theorem Reps.mono {G : Glob} {I I' : Hp} (s : Same I I') : ∀ {ds : List P} {vs : List V}, Reps G I vs ds → Reps G I' vs ds
  | [], _, h => by simpa only [Reps] using h
  | d :: ds, _, h => by
    simp only [Reps] at h ⊢
    obtain ⟨v, r, e, h1, h2⟩ := h
    exact ⟨v, r, e, Rep.mono s h1, Reps.mono s h2⟩
end

theorem Reps.length {G : Glob} {I : Hp} : ∀ {ds : List P} {vs : List V}, Reps G I vs ds → vs.length = ds.length
  | [], _, h => by simp only [Reps] at h; subst h; rfl
  | d :: ds, _, h => by
    simp only [Reps] at h
    obtain ⟨v, r, e, h1, h2⟩ := h
    subst e
    simp [Reps.length h2]
theorem Reps.nil {G : Glob} {I : Hp} : Reps G I [] [] := by simp only [Reps]
theorem Reps.cons {G : Glob} {I : Hp} {v : V} {d : P} {vs : List V} {ds : List P} (h : Rep G I v d) (t : Reps G I vs ds) : Reps G I (v :: vs) (d :: ds) := by
  simp only [Reps]; exact ⟨v, vs, rfl, h, t⟩
theorem Reps.append {G : Glob} {I : Hp} : ∀ {ds es : List P} {vs us : List V}, Reps G I vs ds → Reps G I us es → Reps G I (vs ++ us) (ds ++ es)
  | [], _, _, _, h, t => by simp only [Reps] at h; subst h; exact t
  | d :: ds, _, _, _, h, t => by
    simp only [Reps] at h
    obtain ⟨v, r, e, h1, h2⟩ := h
    subst e
    exact Reps.cons h1 (Reps.append h2 t)
theorem Reps.get {G : Glob} {I : Hp} : ∀ {ds : List P} {vs : List V} {i : Nat} {d : P}, Reps G I vs ds → ds[i]? = some d → ∃ v, vs[i]? = some v ∧ Rep G I v d
  | [], _, _, _, _, e => by simp at e
  | d :: ds, _, 0, _, h, e => by
    simp only [Reps] at h
    obtain ⟨v, r, e', h1, h2⟩ := h
    subst e'
    simp at e; subst e
    exact ⟨v, rfl, h1⟩
  | d :: ds, _, i + 1, _, h, e => by
    simp only [Reps] at h
    obtain ⟨v, r, e', h1, h2⟩ := h
    subst e'
    simpa using Reps.get h2 (by simpa using e)
theorem Reps.get' {G : Glob} {I : Hp} : ∀ {ds : List P} {vs : List V} {i : Nat} {v : V}, Reps G I vs ds → vs[i]? = some v → ∃ d, ds[i]? = some d ∧ Rep G I v d
  | [], _, _, _, h, e => by simp only [Reps] at h; subst h; simp at e
  | d :: ds, _, 0, _, h, e => by
    simp only [Reps] at h
    obtain ⟨v, r, e', h1, h2⟩ := h
    subst e'
    simp at e; subst e
    exact ⟨d, rfl, h1⟩
  | d :: ds, _, i + 1, _, h, e => by
    simp only [Reps] at h
    obtain ⟨v, r, e', h1, h2⟩ := h
    subst e'
    simpa using Reps.get' h2 (by simpa using e)
theorem Reps.take {G : Glob} {I : Hp} : ∀ {ds : List P} {vs : List V} (n : Nat), Reps G I vs ds → Reps G I (vs.take n) (ds.take n)
  | _, _, 0, _ => by simpa using Reps.nil
  | [], _, n + 1, h => by simp only [Reps] at h; subst h; simpa using Reps.nil
  | d :: ds, _, n + 1, h => by
    simp only [Reps] at h
    obtain ⟨v, r, e', h1, h2⟩ := h
    subst e'
    simpa using Reps.cons h1 (Reps.take n h2)
theorem Reps.drop {G : Glob} {I : Hp} : ∀ {ds : List P} {vs : List V} (n : Nat), Reps G I vs ds → Reps G I (vs.drop n) (ds.drop n)
  | _, _, 0, h => by simpa using h
  | [], _, n + 1, h => by simp only [Reps] at h; subst h; simpa using Reps.nil
  | d :: ds, _, n + 1, h => by
    simp only [Reps] at h
    obtain ⟨v, r, e', h1, h2⟩ := h
    subst e'
    simpa using Reps.drop n h2
theorem Reps.set {G : Glob} {I : Hp} {v : V} {d : P} (q : Rep G I v d) : ∀ {ds : List P} {vs : List V} (n : Nat), Reps G I vs ds → Reps G I (vs.set n v) (ds.set n d)
  | [], _, n, h => by simp only [Reps] at h; subst h; simpa using Reps.nil
  | d' :: ds, _, 0, h => by
    simp only [Reps] at h
    obtain ⟨v, r, e', h1, h2⟩ := h
    subst e'
    simpa using Reps.cons q h2
  | d' :: ds, _, n + 1, h => by
    simp only [Reps] at h
    obtain ⟨v, r, e', h1, h2⟩ := h
    subst e'
    simpa using Reps.cons h1 (Reps.set q n h2)

/-- the world: what never changes, where the store's things stand -/
structure Wd where
  I : Hp
  as : List Addr

def RepD (G : Glob) (w : Wd) : V → D → Prop
  | v, .p d => Rep G w.I v d
  | v, .cell n => ∃ a, v = .ref a ∧ w.as[n]? = some a

def CellOk (G : Glob) (I : Hp) (H : Hp) (a : Addr) : Cell → Prop
  | .lst ds => I a = none ∧ ∃ vs, H a = some (.lst vs) ∧ Reps G I vs ds
  | .dK ks ds => I a = none ∧ ∃ kvs, H a = some (.dK kvs) ∧ kvs.map (·.1) = ks ∧ Reps G I (kvs.map (·.2)) ds
  | .obj c ns ds => I a = none ∧ ∃ C dx fs, G.cls c = some C ∧ H a = some (.ins C dx fs) ∧ fs.map (·.1) = ns ∧ Reps G I (fs.map (·.2)) ds
  | .dead => ∃ o, H a = some o

structure Wok (G : Glob) (w : Wd) (S : Store) (H : Hp) : Prop where
  sub : Same w.I H
  len : w.as.length = S.length
  nd : w.as.Nodup
  cells : ∀ (n : Nat) (c : Cell) (a : Addr), S[n]? = some c → w.as[n]? = some a → CellOk G w.I H a c

structure Ext (w : Wd) (H : Hp) (w' : Wd) (H' : Hp) : Prop where
  I : Same w.I w'.I
  as : ∃ t, w'.as = w.as ++ t
  frame : ∀ b o, H b = some o → b ∉ w.as → H' b = some o
  fresh : ∀ b o, H b = some o → b ∉ w.as → b ∉ w'.as ∧ (w.I b = none → w'.I b = none)
  there : ∀ b o, H b = some o → ∃ o', H' b = some o'

theorem CellOk.there {G : Glob} {I H : Hp} {a : Addr} {c : Cell} (h : CellOk G I H a c) : ∃ o, H a = some o := by
  cases c with
  | lst => obtain ⟨_, _, h, _⟩ := h; exact ⟨_, h⟩
  | dK => obtain ⟨_, _, h, _⟩ := h; exact ⟨_, h⟩
  | obj => obtain ⟨_, _, _, _, _, h, _⟩ := h; exact ⟨_, h⟩
  | dead => exact h
theorem Wok.idx {G : Glob} {w : Wd} {S : Store} {H : Hp} (k : Wok G w S H) {n : Nat} {a : Addr} (h : w.as[n]? = some a) : ∃ c, S[n]? = some c ∧ CellOk G w.I H a c := by
  have hn : n < w.as.length := (List.getElem?_eq_some_iff.mp h).1
  have hs : n < S.length := by rw [← k.len]; exact hn
  exact ⟨S[n], by simp [hs], k.cells n _ _ (by simp [hs]) h⟩
theorem Wok.addr {G : Glob} {w : Wd} {S : Store} {H : Hp} (k : Wok G w S H) {n : Nat} {c : Cell} (h : S[n]? = some c) : ∃ a, w.as[n]? = some a ∧ CellOk G w.I H a c := by
  have hn : n < S.length := (List.getElem?_eq_some_iff.mp h).1
  have hs : n < w.as.length := by rw [k.len]; exact hn
  exact ⟨w.as[n], by simp [hs], k.cells n _ _ h (by simp [hs])⟩
theorem Wok.cellThere {G : Glob} {w : Wd} {S : Store} {H : Hp} (k : Wok G w S H) {a : Addr} (ha : a ∈ w.as) : ∃ o, H a = some o := by
  obtain ⟨n, hn, e⟩ := List.getElem_of_mem ha
  obtain ⟨c, _, q⟩ := k.idx (n := n) (a := a) (by simp [hn, e])
  exact q.there

theorem Ext.refl (w : Wd) (H : Hp) : Ext w H w H := ⟨Same.refl _, ⟨[], by simp⟩, fun _ _ h _ => h, fun _ _ _ h => ⟨h, fun q => q⟩, fun _ o h => ⟨o, h⟩⟩
theorem Ext.trans {w w1 w2 : Wd} {H H1 H2 : Hp} (a : Ext w H w1 H1) (b : Ext w1 H1 w2 H2) : Ext w H w2 H2 := by
  obtain ⟨t, ht⟩ := a.as
  obtain ⟨u, hu⟩ := b.as
  refine ⟨a.I.trans b.I, ⟨t ++ u, by rw [hu, ht, List.append_assoc]⟩, fun c o h n => ?_, fun c o h n => ?_, fun c o h => ?_⟩
  · exact b.frame c o (a.frame c o h n) (a.fresh c o h n).1
  · obtain ⟨q1, q2⟩ := a.fresh c o h n
    obtain ⟨p1, p2⟩ := b.fresh c o (a.frame c o h n) q1
    exact ⟨p1, fun z => p2 (q2 z)⟩
  · obtain ⟨o1, p1⟩ := a.there c o h
    exact b.there c o1 p1
section
variable {G : Glob} {w : Wd} {S : Store} {H : Hp} {p : Addr} {o : HO}
theorem Wok.freeI (k : Wok G w S H) (hp : H p = none) : w.I p = none := k.sub.free hp
theorem Wok.freeAs (k : Wok G w S H) (hp : H p = none) : p ∉ w.as := fun z => by
  obtain ⟨u, q⟩ := k.cellThere z
  rw [hp] at q; cases q
theorem Same.upd (H : Hp) (hp : H p = none) : Same H (upd H p o) := fun b u h => by rw [upd_ne (ne_of_none h hp)]; exact h
theorem Same.upd2 {H' : Hp} (s : Same H H') (p : Addr) (o : HO) : Same (L2.upd H p o) (L2.upd H' p o) := fun b u h => by
  by_cases e : b = p
  · subst e; rw [upd_same] at h ⊢; exact h
  · rw [upd_ne e] at h ⊢; exact s b u h
theorem CellOk.grow {I I' H H' : Hp} {a : Addr} {c : Cell} (h : CellOk G I H a c) (si : Same I I') (hI : I a = none → I' a = none) (hh : H' a = H a) : CellOk G I' H' a c := by
  cases c with
  | lst => obtain ⟨z, vs, e, r⟩ := h; exact ⟨hI z, vs, by rw [hh]; exact e, r.mono si⟩
  | dK => obtain ⟨z, vs, e, q, r⟩ := h; exact ⟨hI z, vs, by rw [hh]; exact e, q, r.mono si⟩
  | obj => obtain ⟨z, C, dx, fs, g, e, q, r⟩ := h; exact ⟨hI z, C, dx, fs, g, by rw [hh]; exact e, q, r.mono si⟩
  | dead => obtain ⟨o, e⟩ := h; exact ⟨o, by rw [hh]; exact e⟩
/-- a new thing that never changes -/
theorem Wok.alloc (k : Wok G w S H) (hp : H p = none) : Wok G ⟨upd w.I p o, w.as⟩ S (upd H p o) ∧ Ext w H ⟨upd w.I p o, w.as⟩ (upd H p o) := by
  have np := k.freeAs hp
  refine ⟨⟨Same.upd2 k.sub p o, k.len, k.nd, fun n c a h1 h2 => ?_⟩, ⟨Same.upd _ (k.freeI hp), ⟨[], by simp⟩, fun b u h _ => ?_, fun b u h q => ⟨q, fun z => ?_⟩, fun b u h => ⟨u, ?_⟩⟩⟩
  · have ne : a ≠ p := fun z => np (z ▸ List.mem_of_getElem? h2)
    exact (k.cells n c a h1 h2).grow (Same.upd _ (k.freeI hp)) (fun z => by show upd w.I p o a = none; rw [upd_ne ne]; exact z) (upd_ne ne)
  · rw [upd_ne (ne_of_none h hp)]; exact h
  · show upd w.I p o b = none
    rw [upd_ne (ne_of_none h hp)]; exact z
  · rw [upd_ne (ne_of_none h hp)]; exact h
/-- a thing that is not looked at any more, or not yet -/
theorem Wok.allocX (k : Wok G w S H) (hp : H p = none) : Wok G w S (upd H p o) ∧ Ext w H w (upd H p o) := by
  have np := k.freeAs hp
  refine ⟨⟨fun b u h => ?_, k.len, k.nd, fun n c a h1 h2 => ?_⟩, ⟨Same.refl _, ⟨[], by simp⟩, fun b u h _ => ?_, fun b u h q => ⟨q, fun z => z⟩, fun b u h => ⟨u, ?_⟩⟩⟩
  · have := k.sub b u h
    rw [upd_ne (ne_of_none this hp)]; exact this
  · have ne : a ≠ p := fun z => np (z ▸ List.mem_of_getElem? h2)
    exact (k.cells n c a h1 h2).grow (Same.refl _) (fun z => z) (upd_ne ne)
  · rw [upd_ne (ne_of_none h hp)]; exact h
  · rw [upd_ne (ne_of_none h hp)]; exact h
/-- a new thing of the store -/
theorem Wok.allocC (k : Wok G w S H) (hp : H p = none) {c : Cell} (hc : CellOk G w.I (upd H p o) p c) : Wok G ⟨w.I, w.as ++ [p]⟩ (S ++ [c]) (upd H p o) ∧ Ext w H ⟨w.I, w.as ++ [p]⟩ (upd H p o) := by
  have np := k.freeAs hp
  refine ⟨⟨fun b u h => ?_, by simp [k.len], ?_, fun n c' a h1 h2 => ?_⟩, ⟨Same.refl _, ⟨[p], rfl⟩, fun b u h _ => ?_, fun b u h q => ⟨?_, fun z => z⟩, fun b u h => ⟨u, ?_⟩⟩⟩
  · have := k.sub b u h
    rw [upd_ne (ne_of_none this hp)]; exact this
  · show (w.as ++ [p]).Nodup
    rw [List.nodup_append]
    exact ⟨k.nd, by simp, fun a ha b hb => by simp at hb; subst hb; exact fun z => np (z ▸ ha)⟩
  · have h2 : (w.as ++ [p])[n]? = some a := h2
    by_cases hn : n < S.length
    · rw [List.getElem?_append_left hn] at h1
      rw [List.getElem?_append_left (by rw [k.len]; exact hn)] at h2
      have ne : a ≠ p := fun z => np (z ▸ List.mem_of_getElem? h2)
      exact (k.cells n c' a h1 h2).grow (Same.refl _) (fun z => z) (upd_ne ne)
    · have e : n = S.length := by
        have := (List.getElem?_eq_some_iff.mp h1).1
        simp at this; omega
      subst e
      rw [List.getElem?_append_right (Nat.le_refl _)] at h1
      rw [List.getElem?_append_right (by rw [k.len]; exact Nat.le_refl _)] at h2
      simp [k.len] at h1 h2
      subst h1; subst h2
      exact hc
  · rw [upd_ne (ne_of_none h hp)]; exact h
  · show b ∉ w.as ++ [p]
    simp only [List.mem_append, List.mem_singleton, not_or]
    exact ⟨q, ne_of_none h hp⟩
  · rw [upd_ne (ne_of_none h hp)]; exact h
theorem nodup_at {l : List Addr} (h : l.Nodup) {i j : Nat} {a : Addr} (hi : l[i]? = some a) (hj : l[j]? = some a) : i = j := by
  obtain ⟨h1, e1⟩ := List.getElem?_eq_some_iff.mp hi
  obtain ⟨h2, e2⟩ := List.getElem?_eq_some_iff.mp hj
  exact (List.getElem_inj h).mp (e1.trans e2.symm)
/-- a thing of the store changes -/
theorem Wok.write (k : Wok G w S H) {n : Nat} {c c' : Cell} {a : Addr} (hs : S[n]? = some c) (ha : w.as[n]? = some a) (hl : w.I a = none) (hc : CellOk G w.I (upd H a o) a c') : Wok G w (S.set n c') (upd H a o) ∧ Ext w H w (upd H a o) := by
  refine ⟨⟨fun b u h => ?_, by simp [k.len], k.nd, fun m d b h1 h2 => ?_⟩, ⟨Same.refl _, ⟨[], by simp⟩, fun b u h q => ?_, fun b u h q => ⟨q, fun z => z⟩, fun b u h => ?_⟩⟩
  · have ne : b ≠ a := fun z => by rw [z, hl] at h; cases h
    rw [upd_ne ne]; exact k.sub b u h
  · by_cases e : n = m
    · subst e
      rw [List.getElem?_set_self (List.getElem?_eq_some_iff.mp hs).1] at h1
      cases h1
      rw [ha] at h2; cases h2
      exact hc
    · rw [List.getElem?_set_ne e] at h1
      have ne : b ≠ a := fun z => e (nodup_at k.nd ha (z ▸ h2))
      exact (k.cells m d b h1 h2).grow (Same.refl _) (fun z => z) (upd_ne ne)
  · have ne : b ≠ a := fun z => q (z ▸ List.mem_of_getElem? ha)
    rw [upd_ne ne]; exact h
  · by_cases e : b = a
    · subst e; exact ⟨_, upd_same⟩
    · exact ⟨u, by rw [upd_ne e]; exact h⟩
/-- a thing of the store changes no more -/
theorem Wok.freeze (k : Wok G w S H) {n : Nat} {c : Cell} {a : Addr} {o : HO} (hs : S[n]? = some c) (ha : w.as[n]? = some a) (hH : H a = some o) (hl : w.I a = none) : Wok G ⟨upd w.I a o, w.as⟩ (S.set n .dead) H ∧ Ext w H ⟨upd w.I a o, w.as⟩ H := by
  refine ⟨⟨fun b u h => ?_, by simp [k.len], k.nd, fun m d b h1 h2 => ?_⟩, ⟨Same.upd _ hl, ⟨[], by simp⟩, fun b u h q => h, fun b u h q => ⟨q, fun z => ?_⟩, fun b u h => ⟨u, h⟩⟩⟩
  · by_cases e : b = a
    · subst e
      have h : upd w.I b o b = some u := h
      rw [upd_same] at h; cases h; exact hH
    · have h : upd w.I a o b = some u := h
      rw [upd_ne e] at h; exact k.sub b u h
  · have h2 : w.as[m]? = some b := h2
    by_cases e : n = m
    · subst e
      rw [List.getElem?_set_self (List.getElem?_eq_some_iff.mp hs).1] at h1
      cases h1
      rw [ha] at h2; cases h2
      exact ⟨_, hH⟩
    · rw [List.getElem?_set_ne e] at h1
      have ne : b ≠ a := fun z => e (nodup_at k.nd ha (z ▸ h2))
      exact (k.cells m d b h1 h2).grow (Same.upd _ hl) (fun z => by show upd w.I a o b = none; rw [upd_ne ne]; exact z) rfl
  · have ne : b ≠ a := fun z => q (z ▸ List.mem_of_getElem? ha)
    show upd w.I a o b = none
    rw [upd_ne ne]; exact z
end
theorem RepD.mono {G : Glob} {w w' : Wd} {H H' : Hp} (x : Ext w H w' H') : ∀ {d : D} {v : V}, RepD G w v d → RepD G w' v d
  | .p _, _, h => Rep.mono x.I h
  | .cell n, _, h => by
    obtain ⟨a, e, q⟩ := h
    obtain ⟨t, ht⟩ := x.as
    refine ⟨a, e, ?_⟩
    rw [ht, List.getElem?_append_left (List.getElem?_eq_some_iff.mp q).1]
    exact q

/-- the names' values -/
structure EnvOk (G : Glob) (w : Wd) (σ : L2.St) (r : Rho) : Prop where
  len : r.length = σ.length
  at_ : ∀ (i : Nat) (d : D), r[i]? = some (some d) → ∃ v, σ[i]? = some (some v) ∧ RepD G w v d
theorem EnvOk.mono {G : Glob} {w w' : Wd} {H H' : Hp} {σ : L2.St} {r : Rho} (k : EnvOk G w σ r) (x : Ext w H w' H') : EnvOk G w' σ r :=
  ⟨k.len, fun i d h => let ⟨v, e, q⟩ := k.at_ i d h; ⟨v, e, q.mono x⟩⟩
theorem EnvOk.set {G : Glob} {w : Wd} {σ : L2.St} {r : Rho} {v : V} {d : D} (k : EnvOk G w σ r) (q : RepD G w v d) (i : Nat) : EnvOk G w (σ.set i (some v)) (r.set i (some d)) := by
  refine ⟨by simp [k.len], fun j e h => ?_⟩
  by_cases hj : i = j
  · subst hj
    by_cases hl : i < r.length
    · rw [List.getElem?_set_self hl] at h
      cases h
      exact ⟨v, by rw [List.getElem?_set_self (by rw [← k.len]; exact hl)], q⟩
    · rw [List.getElem?_eq_none (by simpa using hl)] at h; cases h
  · rw [List.getElem?_set_ne hj] at h ⊢
    exact k.at_ j e h

def RepX (G : Glob) (w : Wd) (cls : Value) (dd : Option Addr) (x : Exc) : Prop :=
  (G.cls x.c).map Value.ref = some cls ∧ ((dd = none ∧ x.ns = [] ∧ x.vs = []) ∨ ∃ d fs, dd = some d ∧ w.I d = some (.xd fs) ∧ fs.map (·.1) = x.ns ∧ Reps G w.I (fs.map (·.2)) x.vs)

/-! ### the lifted judgements -/
abbrev DK := D → Store → Prop
abbrev EK := Exc → Store → Prop
abbrev WE := Rho → Store → DK → EK → Prop
abbrev WA := Rho → Store → (List D → Store → Prop) → EK → Prop
abbrev WT := Rho → Store → (Bool → Store → Prop) → EK → Prop
def Qv (G : Glob) (w : Wd) (H : Hp) (Q : VK) : DK := fun d S => ∀ v w' H', Ext w H w' H' → Wok G w' S H' → RepD G w' v d → Q v H'
def Qx (G : Glob) (w : Wd) (H : Hp) (E : XK) : EK := fun x S => ∀ cls dd w' H', Ext w H w' H' → Wok G w' S H' → RepX G w' cls dd x → E cls dd H'
def Qt (G : Glob) (w : Wd) (H : Hp) (Q : Bool → Hp → Prop) : Bool → Store → Prop := fun b S => ∀ w' H', Ext w H w' H' → Wok G w' S H' → Q b H'
def RepDs (G : Glob) (w : Wd) : List V → List D → Prop
  | [], [] => True
  | v :: vs, d :: ds => RepD G w v d ∧ RepDs G w vs ds
  | _, _ => False
theorem RepDs.mono {G : Glob} {w w' : Wd} {H H' : Hp} (x : Ext w H w' H') : ∀ {vs : List V} {ds : List D}, RepDs G w vs ds → RepDs G w' vs ds
  | [], [], _ => trivial
  | _ :: _, _ :: _, ⟨a, b⟩ => ⟨a.mono x, RepDs.mono x b⟩
  | [], _ :: _, h => h.elim
  | _ :: _, [], h => h.elim
def Qa (G : Glob) (w : Wd) (H : Hp) (Q : List V → Hp → Prop) : List D → Store → Prop := fun ds S => ∀ vs w' H', Ext w H w' H' → Wok G w' S H' → RepDs G w' vs ds → Q vs H'
theorem Qv.ext {G : Glob} {w w1 : Wd} {H H1 : Hp} {Q : VK} (x : Ext w H w1 H1) {d : D} {S : Store} (q : Qv G w H Q d S) : Qv G w1 H1 Q d S := fun v w' H' y k r => q v w' H' (x.trans y) k r
theorem Qx.ext {G : Glob} {w w1 : Wd} {H H1 : Hp} {Q : XK} (x : Ext w H w1 H1) {d : Exc} {S : Store} (q : Qx G w H Q d S) : Qx G w1 H1 Q d S := fun c v w' H' y k r => q c v w' H' (x.trans y) k r
theorem Qt.ext {G : Glob} {w w1 : Wd} {H H1 : Hp} {Q : Bool → Hp → Prop} (x : Ext w H w1 H1) {d : Bool} {S : Store} (q : Qt G w H Q d S) : Qt G w1 H1 Q d S := fun w' H' y k => q w' H' (x.trans y) k
theorem Qa.ext {G : Glob} {w w1 : Wd} {H H1 : Hp} {Q : List V → Hp → Prop} (x : Ext w H w1 H1) {d : List D} {S : Store} (q : Qa G w H Q d S) : Qa G w1 H1 Q d S := fun v w' H' y k r => q v w' H' (x.trans y) k r

def Mon (m : WE) : Prop := ∀ r S Q Q' E E', (∀ d S, Q d S → Q' d S) → (∀ x S, E x S → E' x S) → m r S Q E → m r S Q' E'
def MonT (m : WT) : Prop := ∀ r S Q Q' E E', (∀ d S, Q d S → Q' d S) → (∀ x S, E x S → E' x S) → m r S Q E → m r S Q' E'
def MonA (m : WA) : Prop := ∀ r S Q Q' E E', (∀ d S, Q d S → Q' d S) → (∀ x S, E x S → E' x S) → m r S Q E → m r S Q' E'

def tM (G : Glob) (W : WX) (m : WE) : TE := fun σ H Q => ∃ w S r, Wok G w S H ∧ EnvOk G w σ r ∧ m r S (Qv G w H Q) (Qx G w H fun c d H' => W c d σ H')
def tMt (G : Glob) (W : WX) (m : WT) : TT := fun σ H Q => ∃ w S r, Wok G w S H ∧ EnvOk G w σ r ∧ m r S (Qt G w H Q) (Qx G w H fun c d H' => W c d σ H')
def tMa (G : Glob) (W : WX) (m : WA) : TA := fun σ H Q => ∃ w S r, Wok G w S H ∧ EnvOk G w σ r ∧ m r S (Qa G w H Q) (Qx G w H fun c d H' => W c d σ H')

structure RE (G : Glob) (X : Cx) (W : WX) (e : Expr) (m : WE) : Prop where
  pe : PE X e (tM G W m)
  mono : Mon m
structure RT (G : Glob) (X : Cx) (W : WX) (e : Expr) (m : WT) : Prop where
  pe : PT X e (tMt G W m)
  mono : MonT m
structure RA (G : Glob) (X : Cx) (W : WX) (e : List Expr) (m : WA) : Prop where
  pe : PA X e (tMa G W m)
  mono : MonA m

theorem PE.imp {X : Cx} {e : Expr} {t u : TE} (h : PE X e t) (i : ∀ σ H Q, u σ H Q → t σ H Q) : PE X e u := ⟨fun pins s σ H Q I q => h.run pins s σ H Q I (i σ H Q q)⟩
theorem PT.imp {X : Cx} {e : Expr} {t u : TT} (h : PT X e t) (i : ∀ σ H Q, u σ H Q → t σ H Q) : PT X e u := ⟨fun pins s σ H Q I q => h.run pins s σ H Q I (i σ H Q q)⟩
theorem PA.imp {X : Cx} {e : List Expr} {t u : TA} (h : PA X e t) (i : ∀ σ H Q, u σ H Q → t σ H Q) : PA X e u := ⟨fun pos pins s σ H Q I q => h.run pos pins s σ H Q I (i σ H Q q)⟩

/-- e, then what stands behind it -/
theorem tM.bind {G : Glob} {W : WX} {m : WE} (hm : Mon m) {σ : L2.St} {H : Hp} {w : Wd} {S : Store} {r : Rho} {k : DK} {E : XK} {Q : VK} (ok : Wok G w S H) (en : EnvOk G w σ r) (h : m r S k (Qx G w H E)) (hE : ∀ c d H', E c d H' → W c d σ H')
    (hk : ∀ d S' v w' H', Ext w H w' H' → Wok G w' S' H' → RepD G w' v d → k d S' → Q v H') : tM G W m σ H Q :=
  ⟨w, S, r, ok, en, hm r S _ _ _ _ (fun d S' q v w' H' x k r => hk d S' v w' H' x k r q) (fun x S' q c d w' H' x k r => hE _ _ _ (q c d w' H' x k r)) h⟩
end RB
/-! The lifted layer: expressions. -/
namespace RB
open PySem PySem.Spec PyProof.Rows L2

/-! ### constants, names -/
def wC (d : D) : WE := fun _ S Q _ => Q d S
def wVar (i : Nat) : WE := fun r S Q _ => match r[i]? with
  | some (some d) => Q d S
  | _ => False
theorem mon_c (d : D) : Mon (wC d) := fun _ _ _ _ _ _ hq _ h => hq _ _ h
theorem mon_var (i : Nat) : Mon (wVar i) := fun r S Q Q' E E' hq _ h => by
  unfold wVar at h ⊢
  split at h
  · exact hq _ _ h
  · exact h.elim
section
variable {G : Glob} {X : Cx} {W : WX} {e a b c : Expr} {pos : Pos}
theorem re_c {v : V} {d : D} (h : PE X e (tC v)) (r : ∀ w, RepD G w v d) : RE G X W e (wC d) :=
  ⟨PE.imp h fun σ H Q ⟨w, S, ρ, ok, en, q⟩ => q v w H (Ext.refl w H) ok (r w), mon_c d⟩
theorem re_int {i j pos} : RE G X W (.Constant (.int i) j pos) (wC (.p (.int i))) := re_c pe_int fun w => by simp only [RepD, Rep]
theorem re_bl {i j pos} : RE G X W (.Constant (.bool i) j pos) (wC (.p (.bl i))) := re_c pe_bl fun w => by simp only [RepD, Rep]
theorem re_str {i j pos} : RE G X W (.Constant (.str i) j pos) (wC (.p (.str i))) := re_c pe_str fun w => by simp only [RepD, Rep]
theorem re_non {j pos} : RE G X W (.Constant .none j pos) (wC (.p .non)) := re_c pe_non fun w => by simp only [RepD, Rep]
theorem re_gint {x : Str} {i : Int} {t : Tok} (hg : Gl X x) (hm : X.mg x = some (.int i t)) (hd : (x == ("__debug__" : Str)) = false := by decide) : RE G X W (.Name x pos) (wC (.p (.int i))) := re_c (pe_glob (v := .int i) hg hm ⟨_, rfl⟩ hd) fun w => by simp only [RepD, Rep]
theorem re_gstr {x z : Str} {t : Tok} (hg : Gl X x) (hm : X.mg x = some (.str z t)) (hd : (x == ("__debug__" : Str)) = false := by decide) : RE G X W (.Name x pos) (wC (.p (.str z))) := re_c (pe_glob (v := .str z) hg hm ⟨_, rfl⟩ hd) fun w => by simp only [RepD, Rep]
theorem re_ty {x : Str} {n : String} (hg : Gl X x) (hm : X.mg x = none) (hv : bootBuiltins x = some (.type n)) (hn : x ≠ "__name__" := by decide) (hd : (x == ("__debug__" : Str)) = false := by decide) : RE G X W (.Name x pos) (wC (.p (.ty n))) :=
  re_c (pe_bltn (v := .ty n) hg hm hv rfl hn hd) fun w => by simp only [RepD, Rep]
theorem re_var (i : Nat) {x : Str} {pos : Pos} (hN : X.N[i]? = some x := by rfl) (hv : Vis X.env.scope x := by first | exact Or.inl rfl | exact Or.inr (Or.inl rfl) | exact Or.inr (Or.inr rfl)) (hd : (x == ("__debug__" : Str)) = false := by decide)
    (hcd : (x == ("__classdict__" : Str)) = false := by decide) : RE G X W (.Name x pos) (wVar i) := by
  refine ⟨PE.imp (pe_var hN hv hd hcd) fun σ H Q ⟨w, S, ρ, ok, en, q⟩ => ?_, mon_var i⟩
  unfold wVar at q
  split at q
  · rename_i d h
    obtain ⟨v, e, rd⟩ := en.at_ i d h
    exact ⟨v, e, q v w H (Ext.refl w H) ok rd⟩
  · exact q.elim

/-! ### two places -/
structure OpL (G : Glob) (X : Cx) (g : Value → Value → Sem Value) (f : D → D → Store → DK → Prop) : Prop where
  run : OpR X g (fun x y H Q => ∃ w S d1 d2, Wok G w S H ∧ RepD G w x d1 ∧ RepD G w y d2 ∧ f d1 d2 S (Qv G w H Q))
  mono : ∀ d1 d2 S Q Q', (∀ d S, Q d S → Q' d S) → f d1 d2 S Q → f d1 d2 S Q'
def wBin (f : D → D → Store → DK → Prop) (m1 m2 : WE) : WE := fun r S Q E => m1 r S (fun d1 S1 => m2 r S1 (fun d2 S2 => f d1 d2 S2 Q) E) E
theorem mon_bin {f : D → D → Store → DK → Prop} (hf : ∀ d1 d2 S Q Q', (∀ d S, Q d S → Q' d S) → f d1 d2 S Q → f d1 d2 S Q') {m1 m2 : WE} (h1 : Mon m1) (h2 : Mon m2) : Mon (wBin f m1 m2) := fun r S Q Q' E E' hq he h =>
  h1 r S _ _ _ _ (fun d1 S1 q1 => h2 r S1 _ _ _ _ (fun d2 S2 q2 => hf _ _ _ _ _ hq q2) he q1) he h
/-- two in a row -/
theorem tM2 {m1 m2 : WE} (h1 : Mon m1) (h2 : Mon m2) {σ : L2.St} {H : Hp} {w : Wd} {S : Store} {r : Rho} {k : D → D → Store → Prop} {R : V → V → Hp → Prop} (ok : Wok G w S H) (en : EnvOk G w σ r)
    (h : m1 r S (fun d1 S1 => m2 r S1 (fun d2 S2 => k d1 d2 S2) (Qx G w H fun c d H' => W c d σ H')) (Qx G w H fun c d H' => W c d σ H'))
    (hk : ∀ d1 d2 S' x y w' H', Ext w H w' H' → Wok G w' S' H' → RepD G w' x d1 → RepD G w' y d2 → k d1 d2 S' → R x y H') : tM G W m1 σ H fun x H1 => tM G W m2 σ H1 fun y H2 => R x y H2 := by
  refine tM.bind h1 ok en h (fun _ _ _ z => z) fun d1 S1 x w1 H1 x1 k1 r1 q1 => ?_
  refine ⟨w1, S1, r, k1, en.mono x1, h2 r S1 _ _ _ _ (fun d2 S2 q2 y w2 H2 x2 k2 r2 => ?_) (fun x S' q => q.ext x1) q1⟩
  exact hk d1 d2 S2 x y w2 H2 (x1.trans x2) k2 (r1.mono x2) r2 q2
theorem re_bin {op : Operator} {f : D → D → Store → DK → Prop} (ho : OpL G X (binaryOp op) f) {m1 m2 : WE} (ha : RE G X W a m1) (hb : RE G X W b m2) : RE G X W (.BinOp a op b pos) (wBin f m1 m2) := by
  refine ⟨PE.imp (pe_op ho.run ha.pe hb.pe) fun σ H Q ⟨w, S, ρ, ok, en, q⟩ => ?_, mon_bin ho.mono ha.mono hb.mono⟩
  exact tM2 ha.mono hb.mono ok en q fun d1 d2 S' x y w' H' x1 k r1 r2 q => ⟨w', S', d1, d2, k, r1, r2, ho.mono _ _ _ _ _ (fun d S z => z.ext x1) q⟩
theorem re_cmp {op : CmpOp} {f : D → D → Store → DK → Prop} (ho : OpL G X (compareOp op) f) {m1 m2 : WE} (ha : RE G X W a m1) (hb : RE G X W b m2) (hm : behindInMarks op b = false) : RE G X W (.Compare a [op] [b] pos) (wBin f m1 m2) := by
  refine ⟨PE.imp (pe_cmpR ho.run ha.pe hb.pe hm) fun σ H Q ⟨w, S, ρ, ok, en, q⟩ => ?_, mon_bin ho.mono ha.mono hb.mono⟩
  exact tM2 ha.mono hb.mono ok en q fun d1 d2 S' x y w' H' x1 k r1 r2 q => ⟨w', S', d1, d2, k, r1, r2, ho.mono _ _ _ _ _ (fun d S z => z.ext x1) q⟩
structure IxL (G : Glob) (X : Cx) (f : D → D → Store → DK → Prop) : Prop where
  run : IxR X (fun x y H Q => ∃ w S d1 d2, Wok G w S H ∧ RepD G w x d1 ∧ RepD G w y d2 ∧ f d1 d2 S (Qv G w H Q))
  mono : ∀ d1 d2 S Q Q', (∀ d S, Q d S → Q' d S) → f d1 d2 S Q → f d1 d2 S Q'
theorem re_ix {f : D → D → Store → DK → Prop} (ho : IxL G X f) {m1 m2 : WE} (ha : RE G X W a m1) (hb : RE G X W b m2) (hs : PlainIx b := by intro _ _; rfl) : RE G X W (.Subscript a b pos) (wBin f m1 m2) := by
  refine ⟨PE.imp (pe_ix ho.run ha.pe hb.pe hs) fun σ H Q ⟨w, S, ρ, ok, en, q⟩ => ?_, mon_bin ho.mono ha.mono hb.mono⟩
  exact tM2 ha.mono hb.mono ok en q fun d1 d2 S' x y w' H' x1 k r1 r2 q => ⟨w', S', d1, d2, k, r1, r2, ho.mono _ _ _ _ _ (fun d S z => z.ext x1) q⟩

/-! ### one place -/
structure UnL (G : Glob) (X : Cx) (g : Value → Sem Value) (f : D → Store → DK → Prop) : Prop where
  run : UnR X g (fun x H Q => ∃ w S d, Wok G w S H ∧ RepD G w x d ∧ f d S (Qv G w H Q))
  mono : ∀ d1 S Q Q', (∀ d S, Q d S → Q' d S) → f d1 S Q → f d1 S Q'
def wUn (f : D → Store → DK → Prop) (m : WE) : WE := fun r S Q E => m r S (fun d S1 => f d S1 Q) E
theorem mon_un {f : D → Store → DK → Prop} (hf : ∀ d1 S Q Q', (∀ d S, Q d S → Q' d S) → f d1 S Q → f d1 S Q') {m : WE} (h : Mon m) : Mon (wUn f m) := fun r S Q Q' E E' hq he h' => h r S _ _ _ _ (fun d S1 q => hf _ _ _ _ hq q) he h'
theorem re_un {op : UnaryOp} {f : D → Store → DK → Prop} (ho : UnL G X (unaryOp op) f) {m : WE} (ha : RE G X W a m) : RE G X W (.UnaryOp op a pos) (wUn f m) := by
  refine ⟨PE.imp (pe_un ho.run ha.pe) fun σ H Q ⟨w, S, ρ, ok, en, q⟩ => ?_, mon_un ho.mono ha.mono⟩
  exact tM.bind ha.mono ok en q (fun _ _ _ z => z) fun d S' v w' H' x1 k r1 q => ⟨w', S', d, k, r1, ho.mono _ _ _ _ (fun d S z => z.ext x1) q⟩

/-! ### arguments -/
def wNil : WA := fun _ S Q _ => Q [] S
def wCons (m : WE) (t : WA) : WA := fun r S Q E => m r S (fun d S1 => t r S1 (fun ds S2 => Q (d :: ds) S2) E) E
theorem ra_nil : RA G X W [] wNil :=
  ⟨PA.imp pa_nil fun σ H Q ⟨w, S, ρ, ok, en, q⟩ => q [] w H (Ext.refl w H) ok trivial, fun _ _ _ _ _ _ hq _ h => hq _ _ h⟩
theorem ra_cons {m : WE} {t : WA} {es : List Expr} (ha : RE G X W e m) (hr : RA G X W es t) (hs : starEach (e :: es) X.env = (false, eval e X.env) :: starEach es X.env := by rfl) : RA G X W (e :: es) (wCons m t) := by
  refine ⟨PA.imp (pa_cons ha.pe hr.pe hs) fun σ H Q ⟨w, S, ρ, ok, en, q⟩ => ?_, fun r S Q Q' E E' hq he h => ha.mono r S _ _ _ _ (fun d S1 q => hr.mono r S1 _ _ _ _ (fun ds S2 q2 => hq _ _ q2) he q) he h⟩
  refine tM.bind ha.mono ok en q (fun _ _ _ z => z) fun d1 S1 x w1 H1 x1 k1 r1 q1 => ?_
  exact ⟨w1, S1, ρ, k1, en.mono x1, hr.mono ρ S1 _ _ _ _ (fun ds S2 q2 ys w2 H2 x2 k2 r2 => q2 (x :: ys) w2 H2 (x1.trans x2) k2 ⟨r1.mono x2, r2⟩) (fun x S' q => q.ext x1) q1⟩

/-! ### calls of built-ins -/
structure CallL (G : Glob) (X : Cx) (g : Value) (f : List D → Store → DK → Prop) : Prop where
  run : CallR X g (fun xs H Q => ∃ w S ds, Wok G w S H ∧ RepDs G w xs ds ∧ f ds S (Qv G w H Q))
  mono : ∀ ds S Q Q', (∀ d S, Q d S → Q' d S) → f ds S Q → f ds S Q'
def wCB (f : List D → Store → DK → Prop) (m : WA) : WE := fun r S Q E => m r S (fun ds S1 => f ds S1 Q) E
theorem mon_cb {f : List D → Store → DK → Prop} (hf : ∀ d1 S Q Q', (∀ d S, Q d S → Q' d S) → f d1 S Q → f d1 S Q') {m : WA} (h : MonA m) : Mon (wCB f m) := fun r S Q Q' E E' hq he h' => h r S _ _ _ _ (fun d S1 q => hf _ _ _ _ hq q) he h'
theorem re_callB {x : Str} {p pos : Pos} {es : List Expr} {id : String} {f : List D → Store → DK → Prop} {m : WA} (hc : CallL G X (.builtin id) f) (hg : Gl X x) (hm : X.mg x = none) (hv : bootBuiltins x = some (.builtin id)) (ha : RA G X W (e :: es) m) (hn : x ≠ "__name__" := by decide) (hdb : (x == ("__debug__" : Str)) = false := by decide)
    (he : starEach (e :: es) X.env = (false, eval e X.env) :: starEach es X.env := by rfl) (hpl : (backTo pos (starEach es X.env)).any (·.1) = false := by rfl) : RE G X W (.Call (.Name x p) (e :: es) [] pos) (wCB f m) := by
  refine ⟨PE.imp (pe_callB hc.run hg hm hv ha.pe hn hdb he hpl) fun σ H Q ⟨w, S, ρ, ok, en, q⟩ => ?_, mon_cb hc.mono ha.mono⟩
  exact ⟨w, S, ρ, ok, en, ha.mono ρ S _ _ _ _ (fun ds S' q vs w' H' x k r => ⟨w', S', ds, k, r, hc.mono _ _ _ _ (fun d S z => z.ext x) q⟩) (fun _ _ z => z) q⟩
theorem re_callTy {x : Str} {p pos : Pos} {es : List Expr} {T : String} {f : List D → Store → DK → Prop} {m : WA} (hc : CallL G X (.type T) f) (hg : Gl X x) (hm : X.mg x = none) (hv : bootBuiltins x = some (.type T)) (ha : RA G X W (e :: es) m) (hn : x ≠ "__name__" := by decide) (hdb : (x == ("__debug__" : Str)) = false := by decide)
    (he : starEach (e :: es) X.env = (false, eval e X.env) :: starEach es X.env := by rfl) (hpl : (backTo pos (starEach es X.env)).any (·.1) = false := by rfl) : RE G X W (.Call (.Name x p) (e :: es) [] pos) (wCB f m) := by
  refine ⟨PE.imp (pe_callTy hc.run hg hm hv ha.pe hn hdb he hpl) fun σ H Q ⟨w, S, ρ, ok, en, q⟩ => ?_, mon_cb hc.mono ha.mono⟩
  exact ⟨w, S, ρ, ok, en, ha.mono ρ S _ _ _ _ (fun ds S' q vs w' H' x k r => ⟨w', S', ds, k, r, hc.mono _ _ _ _ (fun d S z => z.ext x) q⟩) (fun _ _ z => z) q⟩

/-! ### displays -/
def allP : List D → Option (List P)
  | [] => some []
  | .p d :: ds => (allP ds).map (d :: ·)
  | .cell _ :: _ => none
theorem RepDs.pure {w : Wd} : ∀ {ds : List D} {vs : List V} {ps : List P}, RepDs G w vs ds → allP ds = some ps → Reps G w.I vs ps
  | [], [], _, _, e => by simp [allP] at e; subst e; exact Reps.nil
  | .p d :: ds, v :: vs, _, ⟨h, t⟩, e => by
    simp only [allP, Option.map_eq_some_iff] at e
    obtain ⟨r, e1, rfl⟩ := e
    exact Reps.cons h (RepDs.pure t e1)
  | .cell _ :: _, _, _, _, e => by simp [allP] at e
  | [], _ :: _, _, h, _ => h.elim
  | .p _ :: _, [], _, h, _ => h.elim
def wDisp (mk : List P → P) (m : WA) : WE := fun r S Q E => m r S (fun ds S1 => match allP ds with
  | some ps => ps.length ≤ sizeLine ∧ Q (.p (mk ps)) S1
  | none => False) E
theorem mon_disp (mk : List P → P) {m : WA} (h : MonA m) : Mon (wDisp mk m) := fun r S Q Q' E E' hq he h' => h r S _ _ _ _ (fun d S1 q => by
  try dsimp only at q ⊢
  split at q
  · rename_i ps e
    exact ⟨q.1, hq _ _ q.2⟩
  · exact q.elim) he h'
theorem re_tup {es : List Expr} {k : Nat} {m : WA} (ha : RA G X W es m) : RE G X W (.Tuple es k pos) (wDisp .tup m) := by
  refine ⟨PE.imp (pe_tup ha.pe) fun σ H Q ⟨w, S, ρ, ok, en, q⟩ => ?_, mon_disp _ ha.mono⟩
  refine ⟨w, S, ρ, ok, en, ha.mono ρ S _ _ _ _ (fun ds S' q vs w' H' x k r => ?_) (fun _ _ z => z) q⟩
  try dsimp only at q
  split at q
  · rename_i ps e
    have rp := RepDs.pure r e
    refine ⟨by rw [rp.length]; exact q.1, fun p hp => ?_⟩
    obtain ⟨k2, x2⟩ := k.alloc (o := .tup vs) hp
    refine q.2 (.ref p) _ _ (x.trans x2) k2 ?_
    simp only [RepD, Rep]
    exact ⟨p, vs, rfl, SqT.of upd_same, rp.mono (Same.upd _ (k.freeI hp))⟩
  · exact q.elim
theorem re_lst {es : List Expr} {m : WA} (ha : RA G X W es m) : RE G X W (.List es pos) (wDisp .lst m) := by
  refine ⟨PE.imp (pe_lst ha.pe) fun σ H Q ⟨w, S, ρ, ok, en, q⟩ => ?_, mon_disp _ ha.mono⟩
  refine ⟨w, S, ρ, ok, en, ha.mono ρ S _ _ _ _ (fun ds S' q vs w' H' x k r => ?_) (fun _ _ z => z) q⟩
  try dsimp only at q
  split at q
  · rename_i ps e
    have rp := RepDs.pure r e
    refine ⟨by rw [rp.length]; exact q.1, fun p hp => ?_⟩
    obtain ⟨k2, x2⟩ := k.alloc (o := .lst vs) hp
    refine q.2 (.ref p) _ _ (x.trans x2) k2 ?_
    simp only [RepD, Rep]
    exact ⟨p, vs, rfl, upd_same, rp.mono (Same.upd _ (k.freeI hp))⟩
  · exact q.elim
/-- a list that will change -/
def wNewL (m : WA) : WE := fun r S Q E => m r S (fun ds S1 => match allP ds with
  | some ps => ps.length ≤ sizeLine ∧ Q (.cell S1.length) (S1 ++ [.lst ps])
  | none => False) E
theorem re_newL {es : List Expr} {m : WA} (ha : RA G X W es m) : RE G X W (.List es pos) (wNewL m) := by
  refine ⟨PE.imp (pe_lst ha.pe) fun σ H Q ⟨w, S, ρ, ok, en, q⟩ => ?_, fun r S Q Q' E E' hq he h' => ha.mono r S _ _ _ _ (fun d S1 q => ?_) he h'⟩
  · refine ⟨w, S, ρ, ok, en, ha.mono ρ S _ _ _ _ (fun ds S' q vs w' H' x k r => ?_) (fun _ _ z => z) q⟩
    try dsimp only at q
    split at q
    · rename_i ps e
      have rp := RepDs.pure r e
      refine ⟨by rw [rp.length]; exact q.1, fun p hp => ?_⟩
      obtain ⟨k2, x2⟩ := k.allocC (o := .lst vs) (c := .lst ps) hp ⟨k.freeI hp, vs, upd_same, rp⟩
      refine q.2 (.ref p) _ _ (x.trans x2) k2 ⟨p, rfl, ?_⟩
      show (w'.as ++ [p])[S'.length]? = some p
      rw [← k.len]
      simp
    · exact q.elim
  · try dsimp only at q ⊢
    split at q
    · rename_i ps e
      exact ⟨q.1, hq _ _ q.2⟩
    · exact q.elim
end
end RB
/-! The lifted layer: operators by values, tests, built-ins. -/
namespace RB
open PySem PySem.Spec PyProof.Rows L2

theorem OpR.or {X : Cx} {g : Value → Value → Sem Value} {r r' : R2} (h : OpR X g r) (h' : OpR X g r') : OpR X g (fun x y H Q => r x y H Q ∨ r' x y H Q) := by
  intro pins s σ H x y v u Q I rx ry q
  rcases q with q | q
  · exact h pins s σ H x y v u Q I rx ry q
  · exact h' pins s σ H x y v u Q I rx ry q
theorem OpL.mk' {G : Glob} {X : Cx} {g : Value → Value → Sem Value} {f : D → D → Store → DK → Prop} {r : R2} (h : OpR X g r)
    (i : ∀ x y H Q w S d1 d2, Wok G w S H → RepD G w x d1 → RepD G w y d2 → f d1 d2 S (Qv G w H Q) → r x y H Q) (m : ∀ d1 d2 S Q Q', (∀ d S, Q d S → Q' d S) → f d1 d2 S Q → f d1 d2 S Q') : OpL G X g f :=
  ⟨fun pins s σ H x y v u Q I rx ry ⟨w, S, d1, d2, k, r1, r2, q⟩ => h pins s σ H x y v u Q I rx ry (i x y H Q w S d1 d2 k r1 r2 q), m⟩
section
variable {G : Glob} {w : Wd} {S : Store} {H : Hp} {x : V}
theorem rep_int {i : Int} : RepD G w x (.p (.int i)) ↔ x = .int i := by simp only [RepD, Rep]
theorem rep_str {i : Str} : RepD G w x (.p (.str i)) ↔ x = .str i := by simp only [RepD, Rep]
theorem rep_bl {i : Bool} : RepD G w x (.p (.bl i)) ↔ x = .bl i := by simp only [RepD, Rep]
theorem rep_non : RepD G w x (.p .non) ↔ x = .non := by simp only [RepD, Rep]
theorem rep_ty {n : String} : RepD G w x (.p (.ty n)) ↔ x = .ty n := by simp only [RepD, Rep]
theorem rep_tup {ds : List P} : RepD G w x (.p (.tup ds)) ↔ ∃ a vs, x = .ref a ∧ SqT G.K w.I a vs ∧ Reps G w.I vs ds := by simp only [RepD, Rep]
theorem rep_lst {ds : List P} : RepD G w x (.p (.lst ds)) ↔ ∃ a vs, x = .ref a ∧ w.I a = some (.lst vs) ∧ Reps G w.I vs ds := by simp only [RepD, Rep]
theorem rep_scr {ds : List P} : RepD G w x (.p (.scr ds)) ↔ ∃ a vs, x = .ref a ∧ SqL G.K w.I a vs ∧ Reps G w.I vs ds := by simp only [RepD, Rep]
theorem rep_cell {n : Nat} : RepD G w x (.cell n) ↔ ∃ a, x = .ref a ∧ w.as[n]? = some a := Iff.rfl
theorem Qv.here {Q : VK} {d : D} {v : V} (q : Qv G w H Q d S) (k : Wok G w S H) (r : RepD G w v d) : Q v H := q v w H (Ext.refl w H) k r
/-- a list of the store or of the data -/
def asL (S : Store) : D → Option (List P)
  | .p (.lst ds) => some ds
  | .p (.scr ds) => some ds
  | .cell n => match S[n]? with
    | some (.lst ds) => some ds
    | _ => none
  | _ => none
theorem asL_ok {d : D} {ds : List P} (k : Wok G w S H) (r : RepD G w x d) (h : asL S d = some ds) : ∃ a vs, x = .ref a ∧ SqL G.K H a vs ∧ Reps G w.I vs ds := by
  cases d with
  | p q =>
    cases q <;> simp only [asL] at h <;> first | (cases h; done) | skip
    · cases h
      obtain ⟨a, vs, e, q, rs⟩ := rep_lst.mp r
      exact ⟨a, vs, e, SqL.of (k.sub _ _ q), rs⟩
    · cases h
      obtain ⟨a, vs, e, q, rs⟩ := rep_scr.mp r
      exact ⟨a, vs, e, Same.seq k.sub q, rs⟩
  | cell n =>
    obtain ⟨a, e, q⟩ := rep_cell.mp r
    simp only [asL] at h
    split at h
    · rename_i ds' hs
      cases h
      obtain ⟨_, vs, hv, rs⟩ := k.cells n _ a hs q
      exact ⟨a, vs, e, SqL.of hv, rs⟩
    · cases h
/-- .. that is tracked -/
def asM (S : Store) : D → Option (List P)
  | .p (.lst ds) => some ds
  | .cell n => match S[n]? with
    | some (.lst ds) => some ds
    | _ => none
  | _ => none
theorem asM_ok {d : D} {ds : List P} (k : Wok G w S H) (r : RepD G w x d) (h : asM S d = some ds) : ∃ a vs, x = .ref a ∧ H a = some (.lst vs) ∧ Reps G w.I vs ds := by
  cases d with
  | p q =>
    cases q <;> simp only [asM] at h <;> first | (cases h; done) | skip
    · cases h
      obtain ⟨a, vs, e, q, rs⟩ := rep_lst.mp r
      exact ⟨a, vs, e, k.sub _ _ q, rs⟩
  | cell n =>
    obtain ⟨a, e, q⟩ := rep_cell.mp r
    simp only [asM] at h
    split at h
    · rename_i ds' hs
      cases h
      obtain ⟨_, vs, hv, rs⟩ := k.cells n _ a hs q
      exact ⟨a, vs, e, hv, rs⟩
    · cases h
/-- a new list, a new tuple -/
theorem new_lst {Q : VK} {ps : List P} {vs : List V} {p : Addr} (k : Wok G w S H) (q : Qv G w H Q (.p (.lst ps)) S) (r : Reps G w.I vs ps) (hp : H p = none) : Q (.ref p) (upd H p (.lst vs)) := by
  obtain ⟨k2, x2⟩ := k.alloc (o := .lst vs) hp
  exact q (.ref p) _ _ x2 k2 (rep_lst.mpr ⟨p, vs, rfl, upd_same, r.mono (Same.upd _ (k.freeI hp))⟩)
theorem new_tup {Q : VK} {ps : List P} {vs : List V} {p : Addr} (k : Wok G w S H) (q : Qv G w H Q (.p (.tup ps)) S) (r : Reps G w.I vs ps) (hp : H p = none) : Q (.ref p) (upd H p (.tup vs)) := by
  obtain ⟨k2, x2⟩ := k.alloc (o := .tup vs) hp
  exact q (.ref p) _ _ x2 k2 (rep_tup.mpr ⟨p, vs, rfl, SqT.of upd_same, r.mono (Same.upd _ (k.freeI hp))⟩)
end

/-! ### arithmetic -/
def dAdd (d1 d2 : D) (S : Store) (Q : DK) : Prop := match d1, d2 with
  | .p (.int i), .p (.int j) => Q (.p (.int (i + j))) S
  | .p (.str a), .p (.str b) => a.length + b.length ≤ sizeLine ∧ Q (.p (.str (a ++ b))) S
  | .p (.tup a), .p (.tup b) => a.length + b.length ≤ sizeLine ∧ Q (.p (.tup (a ++ b))) S
  | d1, d2 => match asM S d1, asM S d2 with
    | some a, some b => a.length + b.length ≤ sizeLine ∧ Q (.p (.lst (a ++ b))) S
    | _, _ => False
section
variable {G : Glob} {X : Cx} {W : WX}
theorem ol_add (hK : X.K = G.K) : OpL G X (binaryOp .Add) dAdd := by
  refine OpL.mk' (OpR.or op_add (OpR.or op_add_str (OpR.or op_catA op_cat))) (fun x y H Q w S d1 d2 k r1 r2 h => ?_) (fun d1 d2 S Q Q' hq h => ?_)
  · unfold dAdd at h
    split at h
    · rw [rep_int] at r1 r2
      exact .inl ⟨_, _, r1, r2, h.here k (rep_int.mpr rfl)⟩
    · rw [rep_str] at r1 r2
      exact .inr (.inl ⟨_, _, r1, r2, h.1, h.2.here k (rep_str.mpr rfl)⟩)
    · obtain ⟨a, xs, rfl, q1, s1⟩ := rep_tup.mp r1
      obtain ⟨b, ys, rfl, q2, s2⟩ := rep_tup.mp r2
      have l1 := s1.length
      have l2 := s2.length
      refine .inr (.inr (.inl ⟨a, b, xs, ys, rfl, rfl, hK ▸ Same.tup k.sub q1, hK ▸ Same.tup k.sub q2, by omega, fun e => ?_, fun _ e => ?_, fun _ _ p hp => new_tup k h.2 (s1.append s2) hp⟩))
      · subst e
        exact h.2.here k (rep_tup.mpr ⟨b, ys, rfl, q2, s1.append s2⟩)
      · subst e
        refine h.2.here k (rep_tup.mpr ⟨a, xs, rfl, q1, ?_⟩)
        have : xs = xs ++ [] := by simp
        rw [this]
        exact s1.append s2
    · split at h
      · rename_i a b e1 e2
        obtain ⟨l, xs, rfl, q1, s1⟩ := asM_ok k r1 e1
        obtain ⟨m, ys, rfl, q2, s2⟩ := asM_ok k r2 e2
        have l1 := s1.length
        have l2 := s2.length
        exact .inr (.inr (.inr ⟨l, m, xs, ys, rfl, rfl, q1, q2, by omega, fun p hp => new_lst k h.2 (s1.append s2) hp⟩))
      · exact h.elim
  · unfold dAdd at h ⊢
    split at h
    · exact hq _ _ h
    · exact ⟨h.1, hq _ _ h.2⟩
    · exact ⟨h.1, hq _ _ h.2⟩
    · rename_i h1 h2 h3
      split at h
      · rename_i a b e1 e2
        exact ⟨h.1, hq _ _ h.2⟩
      · exact h.elim
/-- of two ints -/
def dInt (C : Int → Int → Prop) (g : Int → Int → P) (d1 d2 : D) (S : Store) (Q : DK) : Prop := match d1, d2 with
  | .p (.int i), .p (.int j) => C i j ∧ Q (.p (g i j)) S
  | _, _ => False
theorem dInt_mono {C : Int → Int → Prop} {g : Int → Int → P} (d1 d2 : D) (S : Store) (Q Q' : DK) (hq : ∀ d S, Q d S → Q' d S) (h : dInt C g d1 d2 S Q) : dInt C g d1 d2 S Q' := by
  unfold dInt at h ⊢
  split at h
  · exact ⟨h.1, hq _ _ h.2⟩
  · exact h.elim
theorem ol_int {g : Value → Value → Sem Value} {C : Int → Int → Prop} {f : Int → Int → P} {fv : Int → Int → V} (h : OpR X g (rI C fv)) (hf : ∀ w i j, RepD G w (fv i j) (.p (f i j))) : OpL G X g (dInt C f) := by
  refine OpL.mk' h (fun x y H Q w S d1 d2 k r1 r2 h => ?_) dInt_mono
  unfold dInt at h
  split at h
  · rw [rep_int] at r1 r2
    exact ⟨_, _, r1, r2, h.1, h.2.here k (hf _ _ _)⟩
  · exact h.elim
theorem ol_int0 {g : Value → Value → Sem Value} {f : Int → Int → P} {fv : Int → Int → V} (h : OpR X g (rI0 fv)) (hf : ∀ w i j, RepD G w (fv i j) (.p (f i j))) : OpL G X g (dInt (fun _ _ => True) f) := by
  refine OpL.mk' h (fun x y H Q w S d1 d2 k r1 r2 h => ?_) dInt_mono
  unfold dInt at h
  split at h
  · rw [rep_int] at r1 r2
    exact ⟨_, _, r1, r2, h.2.here k (hf _ _ _)⟩
  · exact h.elim
theorem ol_sub : OpL G X (binaryOp .Sub) (dInt (fun _ _ => True) fun i j => .int (i - j)) := ol_int0 op_sub fun _ _ _ => rep_int.mpr rfl
theorem ol_fdiv : OpL G X (binaryOp .FloorDiv) (dInt CDivW fun i j => .int (i / j)) := ol_int op_fdivW fun _ _ _ => rep_int.mpr rfl
theorem ol_mod : OpL G X (binaryOp .Mod) (dInt (fun _ j => 0 < j) fun i j => .int (i % j)) := ol_int op_mod fun _ _ _ => rep_int.mpr rfl
theorem ol_pow : OpL G X (binaryOp .Pow) (dInt CPow fun i j => .int (i ^ j.toNat)) := ol_int op_pow fun _ _ _ => rep_int.mpr rfl
def dMul (d1 d2 : D) (S : Store) (Q : DK) : Prop := match d1, d2 with
  | .p (.int i), .p (.int j) => (CMul i j ∨ CMulW i j) ∧ Q (.p (.int (i * j))) S
  | d1, .p (.int j) => match asM S d1 with
    | some a => -(2 ^ 63) ≤ j ∧ j < 2 ^ 63 ∧ a.length * j.toNat ≤ sizeLine ∧ Q (.p (.lst (List.replicate j.toNat a).flatten)) S
    | none => False
  | _, _ => False
theorem Reps.rep {I : Hp} {vs : List V} {ds : List P} (r : Reps G I vs ds) : ∀ n : Nat, Reps G I (List.replicate n vs).flatten (List.replicate n ds).flatten
  | 0 => Reps.nil
  | n + 1 => by
    rw [List.replicate_succ, List.replicate_succ, List.flatten_cons, List.flatten_cons]
    exact r.append (Reps.rep r n)
theorem ol_mul : OpL G X (binaryOp .Mult) dMul := by
  refine OpL.mk' (OpR.or op_mul (OpR.or op_mulW op_rep)) (fun x y H Q w S d1 d2 k r1 r2 h => ?_) (fun d1 d2 S Q Q' hq h => ?_)
  · unfold dMul at h
    split at h
    · rw [rep_int] at r1 r2
      obtain ⟨c | c, h⟩ := h
      · exact .inl ⟨_, _, r1, r2, c, h.here k (rep_int.mpr rfl)⟩
      · exact .inr (.inl ⟨_, _, r1, r2, c, h.here k (rep_int.mpr rfl)⟩)
    · split at h
      · rename_i a e1
        obtain ⟨l, xs, rfl, q1, s1⟩ := asM_ok k r1 e1
        rw [rep_int] at r2
        obtain ⟨h1, h2, h3, h4⟩ := h
        exact .inr (.inr ⟨l, _, xs, rfl, r2, q1, h1, h2, by rw [s1.length]; exact h3, fun p hp => new_lst k h4 (s1.rep _) hp⟩)
      · exact h.elim
    · exact h.elim
  · unfold dMul at h ⊢
    split at h
    · exact ⟨h.1, hq _ _ h.2⟩
    · split at h
      · exact ⟨h.1, h.2.1, h.2.2.1, hq _ _ h.2.2.2⟩
      · exact h.elim
    · exact h.elim
def dNeg (d : D) (S : Store) (Q : DK) : Prop := match d with
  | .p (.int i) => Q (.p (.int (-i))) S
  | _ => False
theorem ul_neg : UnL G X (unaryOp .USub) dNeg := by
  refine ⟨fun pins s σ H x v Q I rx ⟨w, S, d, k, r, h⟩ => ?_, fun d S Q Q' hq h => ?_⟩
  · unfold dNeg at h
    split at h
    · rw [rep_int] at r
      exact un_neg pins s σ H x v Q I rx ⟨_, r, h.here k (rep_int.mpr rfl)⟩
    · exact h.elim
  · unfold dNeg at h ⊢
    split at h
    · exact hq _ _ h
    · exact h.elim

/-! ### comparisons -/
theorem ol_lt : OpL G X (compareOp .Lt) (dInt (fun _ _ => True) fun i j => .bl (decide (i < j))) := ol_int0 op_lt fun _ _ _ => rep_bl.mpr rfl
theorem ol_le : OpL G X (compareOp .LtE) (dInt (fun _ _ => True) fun i j => .bl (decide (i ≤ j))) := ol_int0 op_le fun _ _ _ => rep_bl.mpr rfl
theorem ol_gt : OpL G X (compareOp .Gt) (dInt (fun _ _ => True) fun i j => .bl (decide (j < i))) := ol_int0 op_gt fun _ _ _ => rep_bl.mpr rfl
theorem ol_ge : OpL G X (compareOp .GtE) (dInt (fun _ _ => True) fun i j => .bl (decide (j ≤ i))) := ol_int0 op_ge fun _ _ _ => rep_bl.mpr rfl
mutual
/-- as the library's data -/
def pd : P → Option PyData
  | .non => some .none
  | .bl b => some (.bool b)
  | .int i => some (.int i)
  | .str x => some (.str x)
  | .lst xs => (pds xs).map .list
  | .scr xs => (pds xs).map .list
  | .tup xs => (pds xs).map .tuple
  | .ty _ | .dK _ _ | .dT _ _ | .obj _ _ _ => none
def pds : List P → Option (List PyData)
  | [] => some []
  | d :: ds => match pd d, pds ds with
    | some x, some xs => some (x :: xs)
    | _, _ => none
end
mutual
theorem pd_ok {K : PySem.W.Frag} (hK : G.K = K) {I H : Hp} (s : Same I H) : ∀ {d : P} {v : V} {e : PyData}, Rep G I v d → pd d = some e → Dp K H v e
  | .non, _, _, h, q => by simp only [Rep, pd] at h q; cases q; subst h; exact .non
  | .bl _, _, _, h, q => by simp only [Rep, pd] at h q; cases q; subst h; exact .bl _
  | .int _, _, _, h, q => by simp only [Rep, pd] at h q; cases q; subst h; exact .int _
  | .str _, _, _, h, q => by simp only [Rep, pd] at h q; cases q; subst h; exact .str _
  | .lst ds, _, _, h, q => by
    simp only [Rep, pd, Option.map_eq_some_iff] at h q
    obtain ⟨a, vs, e, z, r⟩ := h
    obtain ⟨es, e1, e2⟩ := q
    subst e; subst e2
    exact .lst (SqL.of (s _ _ z)) (pds_ok hK s r e1)
  | .scr ds, _, _, h, q => by
    simp only [Rep, pd, Option.map_eq_some_iff] at h q
    obtain ⟨a, vs, e, z, r⟩ := h
    obtain ⟨es, e1, e2⟩ := q
    subst e; subst e2
    exact .lst (Same.seq s (hK ▸ z)) (pds_ok hK s r e1)
  | .tup ds, _, _, h, q => by
    simp only [Rep, pd, Option.map_eq_some_iff] at h q
    obtain ⟨a, vs, e, z, r⟩ := h
    obtain ⟨es, e1, e2⟩ := q
    subst e; subst e2
    exact .tup (Same.tup s (hK ▸ z)) (pds_ok hK s r e1)
  | .ty _, _, _, _, q => by simp [pd] at q
  | .dK _ _, _, _, _, q => by simp [pd] at q
  | .dT _ _, _, _, _, q => by simp [pd] at q
  | .obj _ _ _, _, _, _, q => by simp [pd] at q
theorem pds_ok {K : PySem.W.Frag} (hK : G.K = K) {I H : Hp} (s : Same I H) : ∀ {ds : List P} {vs : List V} {es : List PyData}, Reps G I vs ds → pds ds = some es → DpAll K H vs es
  | [], _, _, h, q => by simp only [Reps, pds] at h q; cases q; subst h; exact .nil
  | d :: ds, _, _, h, q => by
    simp only [Reps, pds] at h q
    obtain ⟨v, r, e, h1, h2⟩ := h
    subst e
    split at q
    · rename_i x xs e1 e2
      cases q
      exact .cons (pd_ok hK s h1 e1) (pds_ok hK s h2 e2)
    · cases q
end
def pdD (S : Store) : D → Option PyData
  | .p d => pd d
  | .cell n => match S[n]? with
    | some (.lst ds) => (pds ds).map .list
    | _ => none
theorem pdD_ok {K : PySem.W.Frag} (hK : G.K = K) {w : Wd} {S : Store} {H : Hp} (k : Wok G w S H) {d : D} {v : V} {e : PyData} (r : RepD G w v d) (q : pdD S d = some e) : Dp K H v e := by
  cases d with
  | p d => exact pd_ok hK k.sub r q
  | cell n =>
    obtain ⟨a, e1, z⟩ := rep_cell.mp r
    simp only [pdD] at q
    split at q
    · rename_i ds hs
      obtain ⟨_, vs, hv, rs⟩ := k.cells n _ a hs z
      rw [Option.map_eq_some_iff] at q
      obtain ⟨es, e2, e3⟩ := q
      subst e1; subst e3
      exact .lst (SqL.of hv) (pds_ok hK k.sub rs e2)
    · cases q
def dEqv (neg : Bool) (d1 d2 : D) (S : Store) (Q : DK) : Prop := match pdD S d1, pdD S d2 with
  | some e1, some e2 => SeqAt.shaped e1 = true ∧ SeqAt.shaped e2 = true ∧ Q (.p (.bl (if neg then !PyData.eqv e1 e2 else PyData.eqv e1 e2))) S
  | _, _ => False
theorem dEqv_mono (neg : Bool) (d1 d2 : D) (S : Store) (Q Q' : DK) (hq : ∀ d S, Q d S → Q' d S) (h : dEqv neg d1 d2 S Q) : dEqv neg d1 d2 S Q' := by
  unfold dEqv at h ⊢
  split at h
  · exact ⟨h.1, h.2.1, hq _ _ h.2.2⟩
  · exact h.elim
theorem ol_eq (hK : X.K = G.K) (hu : X.A.units + 64 < cLine) : OpL G X (compareOp .Eq) (dEqv false) := by
  refine OpL.mk' (op_eqD hu) (fun x y H Q w S d1 d2 k r1 r2 h => ?_) (dEqv_mono _)
  unfold dEqv at h
  split at h
  · rename_i e1 e2 q1 q2
    exact ⟨e1, e2, pdD_ok hK.symm k r1 q1, pdD_ok hK.symm k r2 q2, h.1, h.2.1, h.2.2.here k (rep_bl.mpr rfl)⟩
  · exact h.elim
theorem ol_ne (hK : X.K = G.K) (hu : X.A.units + 64 < cLine) : OpL G X (compareOp .NotEq) (dEqv true) := by
  refine OpL.mk' (op_neD hu) (fun x y H Q w S d1 d2 k r1 r2 h => ?_) (dEqv_mono _)
  unfold dEqv at h
  split at h
  · rename_i e1 e2 q1 q2
    exact ⟨e1, e2, pdD_ok hK.symm k r1 q1, pdD_ok hK.symm k r2 q2, h.1, h.2.1, h.2.2.here k (rep_bl.mpr rfl)⟩
  · exact h.elim
/-- is None, is not None -/
def isNon : D → Bool
  | .p .non => true
  | _ => false
theorem isNon_ok {w : Wd} {x : V} {d : D} (r : RepD G w x d) : decide (x = .non) = isNon d := by
  cases d with
  | cell n => obtain ⟨a, rfl, _⟩ := rep_cell.mp r; rfl
  | p q =>
    cases q <;> simp only [RepD, Rep] at r
    · subst r; rfl
    · subst r; rfl
    · subst r; rfl
    · subst r; rfl
    · subst r; rfl
    · obtain ⟨a, _, rfl, _⟩ := r; rfl
    · obtain ⟨a, _, rfl, _⟩ := r; rfl
    · obtain ⟨a, _, rfl, _⟩ := r; rfl
    · obtain ⟨a, _, rfl, _⟩ := r; rfl
    · obtain ⟨a, _, rfl, _⟩ := r; rfl
    · obtain ⟨a, _, _, _, rfl, _⟩ := r; rfl
def dIsN (neg : Bool) (d1 d2 : D) (S : Store) (Q : DK) : Prop := match d2 with
  | .p .non => Q (.p (.bl (if neg then !isNon d1 else isNon d1))) S
  | .p (.bl b) => match d1 with
    | .p (.bl a) => neg = false ∧ Q (.p (.bl (decide (a = b)))) S
    | _ => False
  | _ => False
theorem dIsN_mono (neg : Bool) (d1 d2 : D) (S : Store) (Q Q' : DK) (hq : ∀ d S, Q d S → Q' d S) (h : dIsN neg d1 d2 S Q) : dIsN neg d1 d2 S Q' := by
  unfold dIsN at h ⊢
  split at h
  · exact hq _ _ h
  · split at h
    · exact ⟨h.1, hq _ _ h.2⟩
    · exact h.elim
  · exact h.elim
theorem ol_notN : OpL G X (compareOp .IsNot) (dIsN true) := by
  refine OpL.mk' op_notN (fun x y H Q w S d1 d2 k r1 r2 h => ?_) (dIsN_mono _)
  unfold dIsN at h
  split at h
  · exact ⟨rep_non.mp r2, by rw [isNon_ok r1]; exact h.here k (rep_bl.mpr rfl)⟩
  · split at h
    · cases h.1
    · exact h.elim
  · exact h.elim
end
end RB
/-! The lifted layer: tests, parts of sequences, dicts, built-ins. -/
namespace RB
open PySem PySem.Spec PyProof.Rows L2
section
variable {G : Glob} {X : Cx} {W : WX} {e a b c : Expr} {pos : Pos}

/-! ### tests -/
def wTest (m : WE) : WT := fun r S Q E => m r S (fun d S1 => match d with
  | .p (.bl b) => Q b S1
  | _ => False) E
theorem mon_test {m : WE} (h : Mon m) : MonT (wTest m) := fun r S Q Q' E E' hq he h' => h r S _ _ _ _ (fun d S1 q => by
  split at q
  · exact hq _ _ q
  · exact q.elim) he h'
theorem tM.test {m : WE} (hm : Mon m) {σ : L2.St} {H : Hp} {Q : Bool → Hp → Prop} (h : tMt G W (wTest m) σ H Q) : tM G W m σ H fun x H' => ∃ k, x = .bl k ∧ Q k H' := by
  obtain ⟨w, S, ρ, ok, en, q⟩ := h
  refine tM.bind hm ok en q (fun _ _ _ z => z) fun d S' v w' H' x k r q => ?_
  split at q
  · exact ⟨_, rep_bl.mp r, q w' H' x k⟩
  · exact q.elim
theorem rt_val {m : WE} (h : RE G X W e m) (he : ∀ whole, isTrue e X.env whole = (do let v ← whole; standAt e.pos; holding [v] (truthy v)) := by intro _; rfl) : RT G X W e (wTest m) :=
  ⟨PT.imp (pt_val h.pe he) fun σ H Q q => tM.test h.mono q, mon_test h.mono⟩
theorem rt_cmp {op : CmpOp} {f : D → D → Store → DK → Prop} (ho : OpL G X (compareOp op) f) {m1 m2 : WE} (ha : RE G X W a m1) (hb : RE G X W b m2) (hm : behindInMarks op b = false) : RT G X W (.Compare a [op] [b] pos) (wTest (wBin f m1 m2)) := by
  refine ⟨PT.imp (pt_cmpR ho.run ha.pe hb.pe hm) fun σ H Q ⟨w, S, ρ, ok, en, q⟩ => ?_, mon_test (mon_bin ho.mono ha.mono hb.mono)⟩
  refine tM2 ha.mono hb.mono ok en q fun d1 d2 S' x y w' H' x1 k r1 r2 q => ⟨w', S', d1, d2, k, r1, r2, ho.mono _ _ _ _ _ (fun d S z v w2 H2 x2 k2 r => ?_) q⟩
  split at z
  · exact ⟨_, rep_bl.mp r, z w2 H2 (x1.trans x2) k2⟩
  · exact z.elim
structure RW (G : Glob) (X : Cx) (W : WX) (e : Expr) (m : WT) : Prop where
  pw : PW X e (tMt G W m)
  mono : MonT m
theorem PW.imp {X : Cx} {e : Expr} {t u : TT} (h : PW X e t) (i : ∀ σ H Q, u σ H Q → t σ H Q) : PW X e u := ⟨fun wh pins s σ H Q I q => h.run wh pins s σ H Q I (i σ H Q q)⟩
theorem RW.rt {m : WT} (h : RW G X W e m) : RT G X W e m := ⟨h.pw.pt, h.mono⟩
def wAnd (t u : WT) : WT := fun r S Q E => t r S (fun b S1 => if b = true then u r S1 Q E else Q false S1) E
def wOr (t u : WT) : WT := fun r S Q E => t r S (fun b S1 => if b = true then Q true S1 else u r S1 Q E) E
def wNot (t : WT) : WT := fun r S Q E => t r S (fun b S1 => Q (!b) S1) E
theorem mon_and {t u : WT} (h1 : MonT t) (h2 : MonT u) : MonT (wAnd t u) := fun r S Q Q' E E' hq he h => h1 r S _ _ _ _ (fun b S1 q => by
  split at q
  · rename_i hb; rw [if_pos hb]; exact h2 r S1 _ _ _ _ hq he q
  · rename_i hb; rw [if_neg hb]; exact hq _ _ q) he h
theorem mon_or {t u : WT} (h1 : MonT t) (h2 : MonT u) : MonT (wOr t u) := fun r S Q Q' E E' hq he h => h1 r S _ _ _ _ (fun b S1 q => by
  split at q
  · rename_i hb; rw [if_pos hb]; exact hq _ _ q
  · rename_i hb; rw [if_neg hb]; exact h2 r S1 _ _ _ _ hq he q) he h
theorem tMt.bind {m : WT} (hm : MonT m) {σ : L2.St} {H : Hp} {w : Wd} {S : Store} {r : Rho} {k : Bool → Store → Prop} {E : XK} {Q : Bool → Hp → Prop} (ok : Wok G w S H) (en : EnvOk G w σ r) (h : m r S k (Qx G w H E)) (hE : ∀ c d H', E c d H' → W c d σ H')
    (hk : ∀ b S' w' H', Ext w H w' H' → Wok G w' S' H' → k b S' → Q b H') : tMt G W m σ H Q :=
  ⟨w, S, r, ok, en, hm r S _ _ _ _ (fun d S' q w' H' x k => hk d S' w' H' x k q) (fun x S' q c d w' H' x k r => hE _ _ _ (q c d w' H' x k r)) h⟩
variable {rest : List Expr}
theorem rw_and1 {t : WT} (ha : RT G X W a t) : RW G X W (.BoolOp .And [a] pos) t := ⟨pw_and1 ha.pe, ha.mono⟩
theorem rw_or1 {t : WT} (ha : RT G X W a t) : RW G X W (.BoolOp .Or [a] pos) t := ⟨pw_or1 ha.pe, ha.mono⟩
theorem rw_and {t u : WT} (ha : RT G X W a t) (hb : RW G X W (.BoolOp .And (b :: rest) pos) u) : RW G X W (.BoolOp .And (a :: b :: rest) pos) (wAnd t u) := by
  refine ⟨PW.imp (pw_and ha.pe hb.pw) fun σ H Q ⟨w, S, ρ, ok, en, q⟩ => ?_, mon_and ha.mono hb.mono⟩
  refine tMt.bind ha.mono ok en q (fun _ _ _ z => z) fun b S' w' H' x k q => ?_
  split at q
  · rename_i hb'; rw [if_pos hb']; exact ⟨w', S', ρ, k, en.mono x, hb.mono ρ S' _ _ _ _ (fun d S z => z.ext x) (fun y S' q => q.ext x) q⟩
  · rename_i hb'; rw [if_neg hb']; exact q w' H' x k
theorem rw_or {t u : WT} (ha : RT G X W a t) (hb : RW G X W (.BoolOp .Or (b :: rest) pos) u) : RW G X W (.BoolOp .Or (a :: b :: rest) pos) (wOr t u) := by
  refine ⟨PW.imp (pw_or ha.pe hb.pw) fun σ H Q ⟨w, S, ρ, ok, en, q⟩ => ?_, mon_or ha.mono hb.mono⟩
  refine tMt.bind ha.mono ok en q (fun _ _ _ z => z) fun b S' w' H' x k q => ?_
  split at q
  · rename_i hb'; rw [if_pos hb']; exact q w' H' x k
  · rename_i hb'; rw [if_neg hb']; exact ⟨w', S', ρ, k, en.mono x, hb.mono ρ S' _ _ _ _ (fun d S z => z.ext x) (fun y S' q => q.ext x) q⟩
theorem rt_not {t : WT} (ha : RT G X W a t) : RT G X W (.UnaryOp .Not a pos) (wNot t) := by
  refine ⟨PT.imp (pt_not ha.pe) fun σ H Q ⟨w, S, ρ, ok, en, q⟩ => ?_, fun r S Q Q' E E' hq he h => ha.mono r S _ _ _ _ (fun b S1 q => hq _ _ q) he h⟩
  exact tMt.bind ha.mono ok en q (fun _ _ _ z => z) fun b S' w' H' x k q => q w' H' x k
/-! as values -/
def wAndV (m1 m2 : WE) : WE := fun r S Q E => m1 r S (fun d S1 => match d with
  | .p (.bl true) => m2 r S1 Q E
  | .p (.bl false) => Q (.p (.bl false)) S1
  | _ => False) E
def wOrV (m1 m2 : WE) : WE := fun r S Q E => m1 r S (fun d S1 => match d with
  | .p (.bl true) => Q (.p (.bl true)) S1
  | .p (.bl false) => m2 r S1 Q E
  | _ => False) E
theorem re_one {op} {m : WE} (h : RE G X W a m) : RE G X W (.BoolOp op [a] pos) m := ⟨pe_one h.pe, h.mono⟩
theorem re_and {m1 m2 : WE} (ha : RE G X W a m1) (hb : RE G X W (.BoolOp .And (b :: rest) pos) m2) : RE G X W (.BoolOp .And (a :: b :: rest) pos) (wAndV m1 m2) := by
  refine ⟨PE.imp (pe_and ha.pe hb.pe) fun σ H Q ⟨w, S, ρ, ok, en, q⟩ => ?_, fun r S Q Q' E E' hq he h => ha.mono r S _ _ _ _ (fun d S1 q => ?_) he h⟩
  · refine tM.bind ha.mono ok en q (fun _ _ _ z => z) fun d S' v w' H' x k r q => ?_
    split at q
    · exact ⟨true, rep_bl.mp r, iteT ⟨w', S', ρ, k, en.mono x, hb.mono ρ S' _ _ _ _ (fun d S z => z.ext x) (fun y S' q => q.ext x) q⟩⟩
    · exact ⟨false, rep_bl.mp r, iteF (q _ w' H' x k (rep_bl.mpr rfl))⟩
    · exact q.elim
  · split at q
    · exact hb.mono r S1 _ _ _ _ hq he q
    · exact hq _ _ q
    · exact q.elim
theorem re_or {m1 m2 : WE} (ha : RE G X W a m1) (hb : RE G X W (.BoolOp .Or (b :: rest) pos) m2) : RE G X W (.BoolOp .Or (a :: b :: rest) pos) (wOrV m1 m2) := by
  refine ⟨PE.imp (pe_or ha.pe hb.pe) fun σ H Q ⟨w, S, ρ, ok, en, q⟩ => ?_, fun r S Q Q' E E' hq he h => ha.mono r S _ _ _ _ (fun d S1 q => ?_) he h⟩
  · refine tM.bind ha.mono ok en q (fun _ _ _ z => z) fun d S' v w' H' x k r q => ?_
    split at q
    · exact ⟨true, rep_bl.mp r, iteT (q _ w' H' x k (rep_bl.mpr rfl))⟩
    · exact ⟨false, rep_bl.mp r, iteF ⟨w', S', ρ, k, en.mono x, hb.mono ρ S' _ _ _ _ (fun d S z => z.ext x) (fun y S' q => q.ext x) q⟩⟩
    · exact q.elim
  · split at q
    · exact hq _ _ q
    · exact hb.mono r S1 _ _ _ _ hq he q
    · exact q.elim
def wNotV (m : WE) : WE := fun r S Q E => m r S (fun d S1 => match d with
  | .p (.bl b) => Q (.p (.bl (!b))) S1
  | _ => False) E
theorem re_not {m : WE} (ha : RE G X W a m) : RE G X W (.UnaryOp .Not a pos) (wNotV m) := by
  refine ⟨PE.imp (pe_not ha.pe) fun σ H Q ⟨w, S, ρ, ok, en, q⟩ => ?_, fun r S Q Q' E E' hq he h => ha.mono r S _ _ _ _ (fun d S1 q => ?_) he h⟩
  · refine tM.bind ha.mono ok en q (fun _ _ _ z => z) fun d S' v w' H' x k r q => ?_
    split at q
    · exact ⟨_, rep_bl.mp r, q _ w' H' x k (rep_bl.mpr rfl)⟩
    · exact q.elim
  · split at q
    · exact hq _ _ q
    · exact q.elim
def wIf (t : WT) (m1 m2 : WE) : WE := fun r S Q E => t r S (fun b S1 => if b = true then m1 r S1 Q E else m2 r S1 Q E) E
theorem re_ifx {t : WT} {m1 m2 : WE} (hc : RT G X W c t) (ha : RE G X W a m1) (hb : RE G X W b m2) : RE G X W (.IfExp c a b pos) (wIf t m1 m2) := by
  refine ⟨PE.imp (pe_ifExp hc.pe ha.pe hb.pe) fun σ H Q ⟨w, S, ρ, ok, en, q⟩ => ?_, fun r S Q Q' E E' hq he h => hc.mono r S _ _ _ _ (fun d S1 q => ?_) he h⟩
  · refine tMt.bind hc.mono ok en q (fun _ _ _ z => z) fun b S' w' H' x k q => ?_
    split at q
    · rename_i hb'; rw [if_pos hb']; exact ⟨w', S', ρ, k, en.mono x, ha.mono ρ S' _ _ _ _ (fun d S z => z.ext x) (fun y S' q => q.ext x) q⟩
    · rename_i hb'; rw [if_neg hb']; exact ⟨w', S', ρ, k, en.mono x, hb.mono ρ S' _ _ _ _ (fun d S z => z.ext x) (fun y S' q => q.ext x) q⟩
  · split at q
    · rename_i z; rw [if_pos z]; exact ha.mono r S1 _ _ _ _ hq he q
    · rename_i z; rw [if_neg z]; exact hb.mono r S1 _ _ _ _ hq he q
/-! a op b op c -/
def wChain (f g : D → D → Store → DK → Prop) (m1 m2 m3 : WE) : WE := fun r S Q E => m1 r S (fun d1 S1 => m2 r S1 (fun d2 S2 => f d1 d2 S2 (fun z S3 => match z with
  | .p (.bl true) => m3 r S3 (fun d3 S4 => g d2 d3 S4 Q) E
  | .p (.bl false) => Q (.p (.bl false)) S3
  | _ => False)) E) E
theorem mon_chain {f g : D → D → Store → DK → Prop} (hf : ∀ d1 d2 S Q Q', (∀ d S, Q d S → Q' d S) → f d1 d2 S Q → f d1 d2 S Q') (hg : ∀ d1 d2 S Q Q', (∀ d S, Q d S → Q' d S) → g d1 d2 S Q → g d1 d2 S Q') {m1 m2 m3 : WE} (h1 : Mon m1) (h2 : Mon m2) (h3 : Mon m3) : Mon (wChain f g m1 m2 m3) := fun r S Q Q' E E' hq he h =>
  h1 r S _ _ _ _ (fun d1 S1 q1 => h2 r S1 _ _ _ _ (fun d2 S2 q2 => hf _ _ _ _ _ (fun z S3 q3 => by
    split at q3
    · exact h3 r S3 _ _ _ _ (fun d3 S4 q4 => hg _ _ _ _ _ hq q4) he q3
    · exact hq _ _ q3
    · exact q3.elim) q2) he q1) he h
theorem chain_in {op op' : CmpOp} {f g : D → D → Store → DK → Prop} (ho : OpL G X (compareOp op) f) (ho' : OpL G X (compareOp op') g) {m1 m2 m3 : WE} (h1 : Mon m1) (h2 : Mon m2) (h3 : Mon m3) {σ : L2.St} {H : Hp} {Q : VK} (h : tM G W (wChain f g m1 m2 m3) σ H Q) :
    tChain (fun x y H Q => ∃ w S d1 d2, Wok G w S H ∧ RepD G w x d1 ∧ RepD G w y d2 ∧ f d1 d2 S (Qv G w H Q)) (fun x y H Q => ∃ w S d1 d2, Wok G w S H ∧ RepD G w x d1 ∧ RepD G w y d2 ∧ g d1 d2 S (Qv G w H Q)) (tM G W m1) (tM G W m2) (tM G W m3) σ H Q := by
  obtain ⟨w, S, ρ, ok, en, q⟩ := h
  refine tM2 h1 h2 ok en q fun d1 d2 S' x y w' H' x1 k r1 r2 q => ⟨w', S', d1, d2, k, r1, r2, ho.mono _ _ _ _ _ (fun z S3 q3 v w3 H3 x3 k3 r3 => ?_) q⟩
  split at q3
  · refine ⟨true, rep_bl.mp r3, iteT ?_⟩
    refine ⟨w3, S3, ρ, k3, en.mono (x1.trans x3), h3 ρ S3 _ _ _ _ (fun d3 S4 q4 u w4 H4 x4 k4 r4 => ?_) (fun y S' q => q.ext (x1.trans x3)) q3⟩
    exact ⟨w4, S4, d2, d3, k4, r2.mono (x3.trans x4), r4, ho'.mono _ _ _ _ _ (fun d S z => z.ext ((x1.trans x3).trans x4)) q4⟩
  · exact ⟨false, rep_bl.mp r3, iteF (q3 _ w3 H3 (x1.trans x3) k3 (rep_bl.mpr rfl))⟩
  · exact q3.elim
theorem re_chain {op op' : CmpOp} {f g : D → D → Store → DK → Prop} (ho : OpL G X (compareOp op) f) (ho' : OpL G X (compareOp op') g) {m1 m2 m3 : WE} (ha : RE G X W a m1) (hb : RE G X W b m2) (hc : RE G X W c m3) (hm : lastMarks [op, op'] [b, c] = false := by with_unfolding_all rfl) :
    RE G X W (.Compare a [op, op'] [b, c] pos) (wChain f g m1 m2 m3) :=
  ⟨PE.imp (pe_chain ho.run ho'.run ha.pe hb.pe hc.pe hm) fun σ H Q h => chain_in ho ho' ha.mono hb.mono hc.mono h, mon_chain ho.mono ho'.mono ha.mono hb.mono hc.mono⟩
theorem rt_chain {op op' : CmpOp} {f g : D → D → Store → DK → Prop} (ho : OpL G X (compareOp op) f) (ho' : OpL G X (compareOp op') g) {m1 m2 m3 : WE} (ha : RE G X W a m1) (hb : RE G X W b m2) (hc : RE G X W c m3) (hm : lastMarks [op, op'] [b, c] = false := by with_unfolding_all rfl) :
    RT G X W (.Compare a [op, op'] [b, c] pos) (wTest (wChain f g m1 m2 m3)) :=
  ⟨PT.imp (pt_chain ho.run ho'.run ha.pe hb.pe hc.pe hm) fun σ H Q h => chain_in ho ho' ha.mono hb.mono hc.mono (tM.test (mon_chain ho.mono ho'.mono ha.mono hb.mono hc.mono) h), mon_test (mon_chain ho.mono ho'.mono ha.mono hb.mono hc.mono)⟩

/-! ### is, in -/
theorem ol_isN : OpL G X (compareOp .Is) (dIsN false) := by
  refine OpL.mk' (OpR.or op_isN op_is_bl) (fun x y H Q w S d1 d2 k r1 r2 h => ?_) (dIsN_mono _)
  unfold dIsN at h
  split at h
  · exact .inl ⟨rep_non.mp r2, by rw [isNon_ok r1]; exact h.here k (rep_bl.mpr rfl)⟩
  · split at h
    · exact .inr ⟨_, _, rep_bl.mp r1, rep_bl.mp r2, h.2.here k (rep_bl.mpr rfl)⟩
    · exact h.elim
  · exact h.elim
/-- one sign in a text -/
def dInS (neg : Bool) (d1 d2 : D) (S : Store) (Q : DK) : Prop := match d1, d2 with
  | .p (.str x), .p (.str z) => ∃ n : Nat, x = ⟨#[n]⟩ ∧ Q (.p (.bl (if neg then !decide (n ∈ z.cps.toList) else decide (n ∈ z.cps.toList)))) S
  | _, _ => False
theorem dInS_mono (neg : Bool) (d1 d2 : D) (S : Store) (Q Q' : DK) (hq : ∀ d S, Q d S → Q' d S) (h : dInS neg d1 d2 S Q) : dInS neg d1 d2 S Q' := by
  unfold dInS at h ⊢
  split at h
  · obtain ⟨n, e, h⟩ := h; exact ⟨n, e, hq _ _ h⟩
  · exact h.elim
theorem ol_inS : OpL G X (compareOp .In) (dInS false) := by
  refine OpL.mk' op_in_sign (fun x y H Q w S d1 d2 k r1 r2 h => ?_) (dInS_mono _)
  unfold dInS at h
  split at h
  · obtain ⟨n, e, h⟩ := h
    exact ⟨n, _, by rw [rep_str.mp r1, e], rep_str.mp r2, h.here k (rep_bl.mpr rfl)⟩
  · exact h.elim
theorem ol_notInS : OpL G X (compareOp .NotIn) (dInS true) := by
  refine OpL.mk' op_notIn_sign (fun x y H Q w S d1 d2 k r1 r2 h => ?_) (dInS_mono _)
  unfold dInS at h
  split at h
  · obtain ⟨n, e, h⟩ := h
    exact ⟨n, _, by rw [rep_str.mp r1, e], rep_str.mp r2, h.here k (rep_bl.mpr rfl)⟩
  · exact h.elim

/-! ### parts -/
theorem atI_rep {I : Hp} {vs : List V} {ds : List P} {i : Int} {d : P} (r : Reps G I vs ds) (h : atI ds i = some d) : ∃ v, atI vs i = some v ∧ Rep G I v d := by
  unfold atI at h ⊢
  rw [r.length]
  cases e : ixN ds.length i with
  | none => rw [e] at h; cases h
  | some j =>
    rw [e] at h
    exact r.get h
/-- an item -/
def dIx (d1 d2 : D) (S : Store) (Q : DK) : Prop := match d2 with
  | .p (.int i) => match d1 with
    | .p (.str z) => z.length ≤ sizeLine ∧ ∃ c, atI z.cps.toList i = some c ∧ Q (.p (.str ⟨#[c]⟩)) S
    | .p (.tup ds) => ∃ d, atI ds i = some d ∧ Q (.p d) S
    | d1 => match asL S d1 with
      | some ds => ∃ d, atI ds i = some d ∧ Q (.p d) S
      | none => False
  | _ => False
theorem il_ix (hK : X.K = G.K) : IxL G X dIx := by
  refine ⟨fun value slice pins s σ H x y v u Q I rx ry ⟨w, S, d1, d2, k, r1, r2, h⟩ hs => ?_, fun d1 d2 S Q Q' hq h => ?_⟩
  · refine ix_seq value slice pins s σ H x y v u Q I rx ry ?_ hs
    unfold dIx at h
    split at h
    · rw [rep_int] at r2
      split at h
      · obtain ⟨h1, c, h2, h3⟩ := h
        exact .inr (.inr ⟨_, _, c, rep_str.mp r1, r2, h1, h2, h3.here k (rep_str.mpr rfl)⟩)
      · obtain ⟨d, h1, h2⟩ := h
        obtain ⟨p, xs, rfl, q, rs⟩ := rep_tup.mp r1
        obtain ⟨z, h3, h4⟩ := atI_rep rs h1
        exact .inr (.inl ⟨p, xs, _, z, rfl, r2, by rw [hK]; exact Same.tup k.sub q, h3, h2.here k h4⟩)
      · split at h
        · rename_i ds e
          obtain ⟨d, h1, h2⟩ := h
          obtain ⟨p, xs, rfl, q, rs⟩ := asL_ok k r1 e
          obtain ⟨z, h3, h4⟩ := atI_rep rs h1
          exact .inl ⟨p, xs, _, z, rfl, r2, by rw [hK]; exact q, h3, h2.here k h4⟩
        · exact h.elim
    · exact h.elim
  · unfold dIx at h ⊢
    split at h
    · split at h
      · obtain ⟨h1, c, h2, h3⟩ := h; exact ⟨h1, c, h2, hq _ _ h3⟩
      · obtain ⟨d, h1, h2⟩ := h; exact ⟨d, h1, hq _ _ h2⟩
      · split at h
        · obtain ⟨d, h1, h2⟩ := h; exact ⟨d, h1, hq _ _ h2⟩
        · exact h.elim
    · exact h.elim
end
end RB
/-! The lifted layer: slices, dicts, built-ins by values. -/
namespace RB
open PySem PySem.Spec PyProof.Rows L2
section
variable {G : Glob} {X : Cx} {W : WX} {e a b c : Expr} {pos : Pos}

/-! ### slices -/
abbrev WO := Rho → Store → (Option Int → Store → Prop) → EK → Prop
def tMo (G : Glob) (W : WX) (m : WO) : TO := fun σ H Q => ∃ w S r, Wok G w S H ∧ EnvOk G w σ r ∧ m r S (fun o S' => ∀ w' H', Ext w H w' H' → Wok G w' S' H' → Q o H') (Qx G w H fun c d H' => W c d σ H')
def MonO (m : WO) : Prop := ∀ r S Q Q' E E', (∀ d S, Q d S → Q' d S) → (∀ x S, E x S → E' x S) → m r S Q E → m r S Q' E'
structure RO (G : Glob) (X : Cx) (W : WX) (e : Option Expr) (m : WO) : Prop where
  pe : PO X e (tMo G W m)
  mono : MonO m
def wNoP : WO := fun _ S Q _ => Q none S
def wPart (m : WE) : WO := fun r S Q E => m r S (fun d S1 => match d with
  | .p (.int i) => Q (some i) S1
  | _ => False) E
theorem PO.imp {X : Cx} {e : Option Expr} {t u : TO} (h : PO X e t) (i : ∀ σ H Q, u σ H Q → t σ H Q) : PO X e u := ⟨fun pins s σ H Q I q => h.run pins s σ H Q I (i σ H Q q)⟩
theorem ro_none : RO G X W none wNoP := ⟨PO.imp po_none fun σ H Q ⟨w, S, ρ, ok, en, q⟩ => q w H (Ext.refl w H) ok, fun _ _ _ _ _ _ hq _ h => hq _ _ h⟩
theorem ro_some {m : WE} (h : RE G X W e m) : RO G X W (some e) (wPart m) := by
  refine ⟨PO.imp (po_some h.pe) fun σ H Q ⟨w, S, ρ, ok, en, q⟩ => ?_, fun r S Q Q' E E' hq he h' => h.mono r S _ _ _ _ (fun d S1 q => ?_) he h'⟩
  · refine tM.bind h.mono ok en q (fun _ _ _ z => z) fun d S' v w' H' x k r q => ?_
    split at q
    · exact ⟨_, rep_int.mp r, q w' H' x k⟩
    · exact q.elim
  · split at q
    · exact hq _ _ q
    · exact q.elim
def dSl (d : D) (lo hi : Option Int) (S : Store) (Q : DK) : Prop := match d with
  | .p (.str z) => z.length ≤ sizeLine ∧ Q (.p (.str (cutS z lo hi))) S
  | .p (.tup ds) => Q (.p (.tup ((ds.drop (HT.sIx ds.length 0 lo)).take (HT.sIx ds.length ds.length hi - HT.sIx ds.length 0 lo)))) S
  | d => match asL S d with
    | some ds => Q (.p (.lst ((ds.drop (HT.sIx ds.length 0 lo)).take (HT.sIx ds.length ds.length hi - HT.sIx ds.length 0 lo)))) S
    | none => False
theorem dSl_mono (d : D) (lo hi : Option Int) (S : Store) (Q Q' : DK) (hq : ∀ d S, Q d S → Q' d S) (h : dSl d lo hi S Q) : dSl d lo hi S Q' := by
  unfold dSl at h ⊢
  split at h
  · exact ⟨h.1, hq _ _ h.2⟩
  · exact hq _ _ h
  · split at h
    · exact hq _ _ h
    · exact h.elim
theorem Reps.cut {I : Hp} {vs : List V} {ds : List P} {lo hi : Option Int} (r : Reps G I vs ds) : Reps G I (cutV vs lo hi) ((ds.drop (HT.sIx ds.length 0 lo)).take (HT.sIx ds.length ds.length hi - HT.sIx ds.length 0 lo)) := by
  unfold cutV
  rw [r.length]
  exact (r.drop _).take _
def wSl (m : WE) (ml mh : WO) : WE := fun r S Q E => m r S (fun d S1 => ml r S1 (fun lo S2 => mh r S2 (fun hi S3 => dSl d lo hi S3 Q) E) E) E
theorem re_slice (hK : X.K = G.K) {m : WE} {ml mh : WO} {lo hi : Option Expr} {p2 : Pos} (he : RE G X W e m) (hl : RO G X W lo ml) (hh : RO G X W hi mh) : RE G X W (.Subscript e (.Slice lo hi none p2) pos) (wSl m ml mh) := by
  refine ⟨PE.imp (pe_slice (SlR.or sl_str (SlR.or sl_tupA sl_list)) he.pe hl.pe hh.pe) fun σ H Q ⟨w, S, ρ, ok, en, q⟩ => ?_, fun r S Q Q' E E' hq he' h => he.mono r S _ _ _ _ (fun d S1 q => hl.mono r S1 _ _ _ _ (fun lo S2 q2 => hh.mono r S2 _ _ _ _ (fun hi S3 q3 => dSl_mono _ _ _ _ _ _ hq q3) he' q2) he' q) he' h⟩
  refine tM.bind he.mono ok en q (fun _ _ _ z => z) fun d S1 x w1 H1 x1 k1 r1 q1 => ?_
  refine ⟨w1, S1, ρ, k1, en.mono x1, hl.mono ρ S1 _ _ _ _ (fun lo S2 q2 w2 H2 x2 k2 => ?_) (fun y S' q => q.ext x1) q1⟩
  refine ⟨w2, S2, ρ, k2, en.mono (x1.trans x2), hh.mono ρ S2 _ _ _ _ (fun hi S3 q3 w3 H3 x3 k3 => ?_) (fun y S' q => q.ext (x1.trans x2)) q2⟩
  have r3 := (r1.mono x2).mono x3
  have xx := (x1.trans x2).trans x3
  unfold dSl at q3
  split at q3
  · exact .inl ⟨_, rep_str.mp r3, q3.1, q3.2 _ w3 H3 xx k3 (rep_str.mpr rfl)⟩
  · obtain ⟨p, xs, rfl, q, rs⟩ := rep_tup.mp r3
    refine .inr (.inl ⟨p, xs, rfl, by rw [hK]; exact Same.tup k3.sub q, fun hw => ?_, fun _ p hp => new_tup k3 (q3.ext xx) rs.cut hp⟩)
    refine q3 _ w3 H3 xx k3 (rep_tup.mpr ⟨p, xs, rfl, q, ?_⟩)
    have := rs.cut (lo := lo) (hi := hi)
    unfold cutV at this
    rw [hw.1, hw.2] at this
    simpa using this
  · split at q3
    · rename_i ds e
      obtain ⟨p, xs, rfl, q, rs⟩ := asL_ok k3 r3 e
      exact .inr (.inr ⟨p, xs, rfl, by rw [hK]; exact q, fun p hp => new_lst k3 (q3.ext xx) rs.cut hp⟩)
    · exact q3.elim

/-! ### built-ins by values -/
theorem CallR.or {X : Cx} {g : Value} {r r' : List V → Hp → VK → Prop} (h : CallR X g r) (h' : CallR X g r') : CallR X g (fun xs H Q => r xs H Q ∨ r' xs H Q) := by
  intro pins s σ H xs us Q I rx q
  rcases q with q | q
  · exact h pins s σ H xs us Q I rx q
  · exact h' pins s σ H xs us Q I rx q
theorem CallL.mk' {g : Value} {f : List D → Store → DK → Prop} {r : List V → Hp → VK → Prop} (h : CallR X g r)
    (i : ∀ xs H Q w S ds, Wok G w S H → RepDs G w xs ds → f ds S (Qv G w H Q) → r xs H Q) (m : ∀ ds S Q Q', (∀ d S, Q d S → Q' d S) → f ds S Q → f ds S Q') : CallL G X g f :=
  ⟨fun pins s σ H xs us Q I rx ⟨w, S, ds, k, r1, q⟩ => h pins s σ H xs us Q I rx (i xs H Q w S ds k r1 q), m⟩
theorem reps1 {w : Wd} {xs : List V} {d : D} (r : RepDs G w xs [d]) : ∃ x, xs = [x] ∧ RepD G w x d := by
  match xs, r with
  | [x], ⟨h, _⟩ => exact ⟨x, rfl, h⟩
theorem reps2 {w : Wd} {xs : List V} {d d' : D} (r : RepDs G w xs [d, d']) : ∃ x y, xs = [x, y] ∧ RepD G w x d ∧ RepD G w y d' := by
  match xs, r with
  | [x, y], ⟨h, h', _⟩ => exact ⟨x, y, rfl, h, h'⟩
/-- one argument -/
def b1 (f : D → Store → DK → Prop) (ds : List D) (S : Store) (Q : DK) : Prop := match ds with
  | [d] => f d S Q
  | _ => False
def b2 (f : D → D → Store → DK → Prop) (ds : List D) (S : Store) (Q : DK) : Prop := match ds with
  | [d, d'] => f d d' S Q
  | _ => False
theorem CallL.mk1 {g : Value} {f : D → Store → DK → Prop} {r : List V → Hp → VK → Prop} (h : CallR X g r)
    (i : ∀ x H Q w S d, Wok G w S H → RepD G w x d → f d S (Qv G w H Q) → r [x] H Q) (m : ∀ d S Q Q', (∀ d S, Q d S → Q' d S) → f d S Q → f d S Q') : CallL G X g (b1 f) := by
  refine CallL.mk' h (fun xs H Q w S ds k rs q => ?_) (fun ds S Q Q' hq q => ?_)
  · unfold b1 at q
    split at q
    · obtain ⟨x, rfl, rx⟩ := reps1 rs
      exact i x H Q w S _ k rx q
    · exact q.elim
  · unfold b1 at q ⊢
    split at q
    · exact m _ _ _ _ hq q
    · exact q.elim
theorem CallL.mk2 {g : Value} {f : D → D → Store → DK → Prop} {r : List V → Hp → VK → Prop} (h : CallR X g r)
    (i : ∀ x y H Q w S d d', Wok G w S H → RepD G w x d → RepD G w y d' → f d d' S (Qv G w H Q) → r [x, y] H Q) (m : ∀ d d' S Q Q', (∀ d S, Q d S → Q' d S) → f d d' S Q → f d d' S Q') : CallL G X g (b2 f) := by
  refine CallL.mk' h (fun xs H Q w S ds k rs q => ?_) (fun ds S Q Q' hq q => ?_)
  · unfold b2 at q
    split at q
    · obtain ⟨x, y, rfl, rx, ry⟩ := reps2 rs
      exact i x y H Q w S _ _ k rx ry q
    · exact q.elim
  · unfold b2 at q ⊢
    split at q
    · exact m _ _ _ _ _ hq q
    · exact q.elim
def dLen (d : D) (S : Store) (Q : DK) : Prop := match d with
  | .p (.str z) => z.length ≤ sizeLine ∧ Q (.p (.int z.length)) S
  | .p (.tup ds) => Q (.p (.int ds.length)) S
  | d => match asL S d with
    | some ds => Q (.p (.int ds.length)) S
    | none => False
theorem cl_len (hK : X.K = G.K) : CallL G X (.builtin "len") (b1 dLen) := by
  refine CallL.mk1 call_len (fun x H Q w S d k r q => ?_) (fun d S Q Q' hq q => ?_)
  · unfold dLen at q
    split at q
    · rw [rep_str] at r
      subst r
      exact ⟨_, _, rfl, ⟨q.1, rfl⟩, q.2.here k (rep_int.mpr rfl)⟩
    · obtain ⟨p, xs, rfl, z, rs⟩ := rep_tup.mp r
      exact ⟨_, xs.length, rfl, .inr ⟨xs, by rw [hK]; exact Same.tup k.sub z, rfl⟩, q.here k (rep_int.mpr (by rw [rs.length]))⟩
    · split at q
      · rename_i ds e
        obtain ⟨p, xs, rfl, z, rs⟩ := asL_ok k r e
        exact ⟨_, xs.length, rfl, .inl ⟨xs, by rw [hK]; exact z, rfl⟩, q.here k (rep_int.mpr (by rw [rs.length]))⟩
      · exact q.elim
  · unfold dLen at q ⊢
    split at q
    · exact ⟨q.1, hq _ _ q.2⟩
    · exact hq _ _ q
    · split at q
      · exact hq _ _ q
      · exact q.elim
/-- an int to data -/
def dI1 (g : Int → P) (d : D) (S : Store) (Q : DK) : Prop := match d with
  | .p (.int i) => Q (.p (g i)) S
  | _ => False
theorem dI1_mono {g : Int → P} (d : D) (S : Store) (Q Q' : DK) (hq : ∀ d S, Q d S → Q' d S) (q : dI1 g d S Q) : dI1 g d S Q' := by
  unfold dI1 at q ⊢
  split at q
  · exact hq _ _ q
  · exact q.elim
theorem cl_abs : CallL G X (.builtin "abs") (b1 (dI1 fun i => .int (if i < 0 then -i else i))) := by
  refine CallL.mk1 call_abs (fun x H Q w S d k r q => ?_) dI1_mono
  unfold dI1 at q
  split at q
  · rw [rep_int] at r
    subst r
    exact ⟨_, rfl, q.here k (rep_int.mpr rfl)⟩
  · exact q.elim
def dToInt (d : D) (S : Store) (Q : DK) : Prop := match d with
  | .p (.int i) => Q (.p (.int i)) S
  | .p (.bl b) => Q (.p (.int (if b then 1 else 0))) S
  | _ => False
theorem cl_int : CallL G X (.type "int") (b1 dToInt) := by
  refine CallL.mk1 call_int1 (fun x H Q w S d k r q => ?_) (fun d S Q Q' hq q => ?_)
  · unfold dToInt at q
    split at q
    · rw [rep_int] at r
      subst r
      exact .inl ⟨_, rfl, q.here k (rep_int.mpr rfl)⟩
    · rw [rep_bl] at r
      subst r
      exact .inr ⟨_, rfl, q.here k (rep_int.mpr rfl)⟩
    · exact q.elim
  · unfold dToInt at q ⊢
    split at q
    · exact hq _ _ q
    · exact hq _ _ q
    · exact q.elim
theorem cl_min2 (hc : X.calm = true) : CallL G X (.builtin "min") (b2 (dInt (fun _ _ => True) fun i j => .int (if j < i then j else i))) := by
  refine CallL.mk2 (call_min2 hc) (fun x y H Q w S d d' k r r' q => ?_) dInt_mono
  unfold dInt at q
  split at q
  · rw [rep_int] at r r'
    subst r; subst r'
    exact ⟨_, _, rfl, q.2.here k (rep_int.mpr rfl)⟩
  · exact q.elim
theorem cl_max2 (hc : X.calm = true) : CallL G X (.builtin "max") (b2 (dInt (fun _ _ => True) fun i j => .int (if j > i then j else i))) := by
  refine CallL.mk2 (call_max2 hc) (fun x y H Q w S d d' k r r' q => ?_) dInt_mono
  unfold dInt at q
  split at q
  · rw [rep_int] at r r'
    subst r; subst r'
    exact ⟨_, _, rfl, q.2.here k (rep_int.mpr rfl)⟩
  · exact q.elim
/-- a list or a tuple -/
def asQ (S : Store) : D → Option (List P)
  | .p (.tup ds) => some ds
  | d => asL S d
theorem asQ_ok {w : Wd} {S : Store} {H : Hp} {x : V} {d : D} {ds : List P} (k : Wok G w S H) (r : RepD G w x d) (h : asQ S d = some ds) : ∃ a vs, x = .ref a ∧ (SqL G.K H a vs ∨ SqT G.K H a vs) ∧ Reps G w.I vs ds := by
  unfold asQ at h
  split at h
  · cases h
    obtain ⟨p, xs, rfl, z, rs⟩ := rep_tup.mp r
    exact ⟨p, xs, rfl, .inr (Same.tup k.sub z), rs⟩
  · obtain ⟨p, xs, rfl, z, rs⟩ := asL_ok k r h
    exact ⟨p, xs, rfl, .inl z, rs⟩
def dQ1 (f : List P → Store → DK → Prop) (d : D) (S : Store) (Q : DK) : Prop := match asQ S d with
  | some ds => f ds S Q
  | none => False
theorem dQ1_mono {f : List P → Store → DK → Prop} (hf : ∀ ds S Q Q', (∀ d S, Q d S → Q' d S) → f ds S Q → f ds S Q') (d : D) (S : Store) (Q Q' : DK) (hq : ∀ d S, Q d S → Q' d S) (q : dQ1 f d S Q) : dQ1 f d S Q' := by
  unfold dQ1 at q ⊢
  split at q
  · exact hf _ _ _ _ hq q
  · exact q.elim
theorem cl_list (hK : X.K = G.K) : CallL G X (.type "list") (b1 (dQ1 fun ds S Q => Q (.p (.lst ds)) S)) := by
  refine CallL.mk1 call_list_of (fun x H Q w S d k r q => ?_) (dQ1_mono fun _ _ _ _ hq q => hq _ _ q)
  unfold dQ1 at q
  split at q
  · rename_i ds e
    obtain ⟨p, xs, rfl, z, rs⟩ := asQ_ok k r e
    exact ⟨p, xs, rfl, by rw [hK]; exact z, fun p hp => new_lst k q rs hp⟩
  · exact q.elim
/-- list(..) that will change -/
theorem cl_listC (hK : X.K = G.K) : CallL G X (.type "list") (b1 (dQ1 fun ds S Q => Q (.cell S.length) (S ++ [.lst ds]))) := by
  refine CallL.mk1 call_list_of (fun x H Q w S d k r q => ?_) (dQ1_mono fun _ _ _ _ hq q => hq _ _ q)
  unfold dQ1 at q
  split at q
  · rename_i ds e
    obtain ⟨p, xs, rfl, z, rs⟩ := asQ_ok k r e
    refine ⟨p, xs, rfl, by rw [hK]; exact z, fun p hp => ?_⟩
    obtain ⟨k2, x2⟩ := k.allocC (o := .lst xs) (c := .lst ds) hp ⟨k.freeI hp, xs, upd_same, rs⟩
    refine q (.ref p) _ _ x2 k2 ⟨p, rfl, ?_⟩
    show (w.as ++ [p])[S.length]? = some p
    rw [← k.len]
    simp
  · exact q.elim
theorem cl_tuple (hK : X.K = G.K) : CallL G X (.type "tuple") (b1 (dQ1 fun ds S Q => Q (.p (.tup ds)) S)) := by
  refine CallL.mk1 call_tuple_of (fun x H Q w S d k r q => ?_) (dQ1_mono fun _ _ _ _ hq q => hq _ _ q)
  unfold dQ1 asQ at q
  split at q
  · rename_i ds e
    split at e
    · cases e
      obtain ⟨p, xs, rfl, z, rs⟩ := rep_tup.mp r
      exact ⟨p, xs, rfl, .inr ⟨by rw [hK]; exact Same.tup k.sub z, q.here k (rep_tup.mpr ⟨p, xs, rfl, z, rs⟩)⟩⟩
    · obtain ⟨p, xs, rfl, z, rs⟩ := asL_ok k r e
      exact ⟨p, xs, rfl, .inl ⟨by rw [hK]; exact z, fun p hp => new_tup k q rs hp⟩⟩
  · exact q.elim
/-- the truths of a list -/
def bls : List P → Option (List Bool)
  | [] => some []
  | .bl b :: r => (bls r).map (b :: ·)
  | _ :: _ => none
theorem bls_ok {I : Hp} : ∀ {ds : List P} {vs : List V} {bs : List Bool}, Reps G I vs ds → bls ds = some bs → vs = bs.map V.bl
  | [], _, _, h, q => by simp only [Reps, bls] at h q; cases q; exact h
  | .bl b :: ds, _, _, h, q => by
    simp only [Reps, Rep, bls, Option.map_eq_some_iff] at h q
    obtain ⟨v, r, e, rfl, h2⟩ := h
    obtain ⟨bs, e1, rfl⟩ := q
    rw [e, bls_ok h2 e1]
    rfl
  | .non :: _, _, _, _, q | .int _ :: _, _, _, _, q | .str _ :: _, _, _, _, q | .ty _ :: _, _, _, _, q | .tup _ :: _, _, _, _, q | .lst _ :: _, _, _, _, q | .scr _ :: _, _, _, _, q | .dK _ _ :: _, _, _, _, q | .dT _ _ :: _, _, _, _, q | .obj _ _ _ :: _, _, _, _, q => by simp [bls] at q
def dBls (g : List Bool → Bool) (d : D) (S : Store) (Q : DK) : Prop := match asL S d with
  | some ds => match bls ds with
    | some bs => Q (.p (.bl (g bs))) S
    | none => False
  | none => False
theorem dBls_mono {g : List Bool → Bool} (d : D) (S : Store) (Q Q' : DK) (hq : ∀ d S, Q d S → Q' d S) (q : dBls g d S Q) : dBls g d S Q' := by
  unfold dBls at q ⊢
  split at q
  · split at q
    · exact hq _ _ q
    · exact q.elim
  · exact q.elim
theorem cl_all (hK : X.K = G.K) (hc : X.calm = true) : CallL G X (.builtin "all") (b1 (dBls fun bs => bs.all id)) := by
  refine CallL.mk1 (cr_all hc) (fun x H Q w S d k r q => ?_) dBls_mono
  unfold dBls at q
  split at q
  · rename_i ds e
    split at q
    · rename_i bs e2
      obtain ⟨p, xs, rfl, z, rs⟩ := asL_ok k r e
      rw [bls_ok rs e2] at z
      exact ⟨p, bs, rfl, by rw [hK]; exact z, q.here k (rep_bl.mpr rfl)⟩
    · exact q.elim
  · exact q.elim
theorem cl_any (hK : X.K = G.K) (hc : X.calm = true) : CallL G X (.builtin "any") (b1 (dBls fun bs => bs.any id)) := by
  refine CallL.mk1 (cr_any hc) (fun x H Q w S d k r q => ?_) dBls_mono
  unfold dBls at q
  split at q
  · rename_i ds e
    split at q
    · rename_i bs e2
      obtain ⟨p, xs, rfl, z, rs⟩ := asL_ok k r e
      rw [bls_ok rs e2] at z
      exact ⟨p, bs, rfl, by rw [hK]; exact z, q.here k (rep_bl.mpr rfl)⟩
    · exact q.elim
  · exact q.elim
def intsP : List P → Option (List Int)
  | [] => some []
  | .int b :: r => (intsP r).map (b :: ·)
  | _ :: _ => none
theorem intsP_ok {I : Hp} : ∀ {ds : List P} {vs : List V} {bs : List Int}, Reps G I vs ds → intsP ds = some bs → vs = bs.map V.int
  | [], _, _, h, q => by simp only [Reps, intsP] at h q; cases q; exact h
  | .int b :: ds, _, _, h, q => by
    simp only [Reps, Rep, intsP, Option.map_eq_some_iff] at h q
    obtain ⟨v, r, e, rfl, h2⟩ := h
    obtain ⟨bs, e1, rfl⟩ := q
    rw [e, intsP_ok h2 e1]
    rfl
  | .non :: _, _, _, _, q | .bl _ :: _, _, _, _, q | .str _ :: _, _, _, _, q | .ty _ :: _, _, _, _, q | .tup _ :: _, _, _, _, q | .lst _ :: _, _, _, _, q | .scr _ :: _, _, _, _, q | .dK _ _ :: _, _, _, _, q | .dT _ _ :: _, _, _, _, q | .obj _ _ _ :: _, _, _, _, q => by simp [intsP] at q
def dSum (d : D) (S : Store) (Q : DK) : Prop := match asL S d with
  | some ds => match intsP ds with
    | some bs => Q (.p (.int bs.sum)) S
    | none => False
  | none => False
theorem cl_sum (hK : X.K = G.K) (hc : X.calm = true) : CallL G X (.builtin "sum") (b1 dSum) := by
  refine CallL.mk1 (cr_sum hc) (fun x H Q w S d k r q => ?_) (fun d S Q Q' hq q => ?_)
  · unfold dSum at q
    split at q
    · rename_i ds e
      split at q
      · rename_i bs e2
        obtain ⟨p, xs, rfl, z, rs⟩ := asL_ok k r e
        rw [intsP_ok rs e2] at z
        exact ⟨p, bs, rfl, by rw [hK]; exact z, q.here k (rep_int.mpr rfl)⟩
      · exact q.elim
    · exact q.elim
  · unfold dSum at q ⊢
    split at q
    · split at q
      · exact hq _ _ q
      · exact q.elim
    · exact q.elim
/-- texts of a list -/
def strsP : List P → Option (List Str)
  | [] => some []
  | .str b :: r => (strsP r).map (b :: ·)
  | _ :: _ => none
theorem strsP_ok {I : Hp} : ∀ {ds : List P} {vs : List V} {bs : List Str}, Reps G I vs ds → strsP ds = some bs → vs = bs.map V.str
  | [], _, _, h, q => by simp only [Reps, strsP] at h q; cases q; exact h
  | .str b :: ds, _, _, h, q => by
    simp only [Reps, Rep, strsP, Option.map_eq_some_iff] at h q
    obtain ⟨v, r, e, rfl, h2⟩ := h
    obtain ⟨bs, e1, rfl⟩ := q
    rw [e, strsP_ok h2 e1]
    rfl
  | .non :: _, _, _, _, q | .bl _ :: _, _, _, _, q | .int _ :: _, _, _, _, q | .ty _ :: _, _, _, _, q | .tup _ :: _, _, _, _, q | .lst _ :: _, _, _, _, q | .scr _ :: _, _, _, _, q | .dK _ _ :: _, _, _, _, q | .dT _ _ :: _, _, _, _, q | .obj _ _ _ :: _, _, _, _, q => by simp [strsP] at q
def dJoin (d1 d2 : D) (S : Store) (Q : DK) : Prop := match d1, asQ S d2 with
  | .p (.str a), some ds => match strsP ds with
    | some ys => (ys.map (·.length)).sum + ys.length * a.length ≤ 16777216 ∧ Q (.p (.str (Txt.join a ys))) S
    | none => False
  | _, _ => False
theorem dJoin_mono (d1 d2 : D) (S : Store) (Q Q' : DK) (hq : ∀ d S, Q d S → Q' d S) (q : dJoin d1 d2 S Q) : dJoin d1 d2 S Q' := by
  unfold dJoin at q ⊢
  split at q
  · split at q
    · exact ⟨q.1, hq _ _ q.2⟩
    · exact q.elim
  · exact q.elim
/-- a first, known to be a text, then b -/
def wJoin (m1 m2 : WE) : WE := fun r S Q E => m1 r S (fun d1 S1 => match d1 with
  | .p (.str a) => m2 r S1 (fun d2 S2 => dJoin (.p (.str a)) d2 S2 Q) E
  | _ => False) E
theorem re_join (hK : X.K = G.K) {m1 m2 : WE} {apos pos : Pos} {o : Expr} (ho : RE G X W o m1) (he : RE G X W e m2) (hs : starEach [e] X.env = [(false, eval e X.env)] := by rfl) (hbase : attributeBase o "join" X.env (eval o X.env) = eval o X.env := by rfl) (hline : (apos.endLine == pos.line) = true := by rfl) :
    RE G X W (.Call (.Attribute o "join" apos) [e] [] pos) (wJoin m1 m2) := by
  refine ⟨PE.imp (pe_join ho.pe he.pe hs hbase hline) fun σ H Q ⟨w, S, ρ, ok, en, q⟩ => ?_, fun r S Q Q' E E' hq he' h => ho.mono r S _ _ _ _ (fun d S1 q => ?_) he' h⟩
  · refine tM.bind ho.mono ok en q (fun _ _ _ z => z) fun d1 S1 x w1 H1 x1 k1 r1 q1 => ?_
    split at q1
    · rename_i a
      refine ⟨⟨a, rep_str.mp r1⟩, w1, S1, ρ, k1, en.mono x1, he.mono ρ S1 _ _ _ _ (fun d2 S2 q2 y w2 H2 x2 k2 r2 => ?_) (fun y S' q => q.ext x1) q1⟩
      unfold dJoin at q2
      split at q2
      · rename_i a' ds e1 e2
        cases e1
        split at q2
        · rename_i ys e3
          obtain ⟨p, xs, rfl, z, rs⟩ := asQ_ok k2 r2 e2
          rw [strsP_ok rs e3] at z
          exact ⟨a, p, ys, rep_str.mp r1, rfl, by rw [hK]; exact z, q2.1, q2.2 _ w2 H2 (x1.trans x2) k2 (rep_str.mpr rfl)⟩
        · exact q2.elim
      · exact q2.elim
    · exact q1.elim
  · split at q
    · exact he.mono r S1 _ _ _ _ (fun d2 S2 q2 => dJoin_mono _ _ _ _ _ hq q2) he' q
    · exact q.elim
end
end RB
/-! The lifted layer: isinstance, repr of scalars, dicts. -/
namespace RB
open PySem PySem.Spec PyProof.Rows L2
section
variable {G : Glob} {X : Cx} {W : WX} {e a b c : Expr} {pos : Pos}

/-! ### isinstance with built-in classes -/
/-- the name of a value's built-in class -/
def tyS (S : Store) : D → Option String
  | .p .non => some "NoneType"
  | .p (.bl _) => some "bool"
  | .p (.int _) => some "int"
  | .p (.str _) => some "str"
  | .p (.tup _) => some "tuple"
  | .p (.lst _) => some "list"
  | .p (.dK _ _) => some "dict"
  | .p (.dT _ _) => some "dict"
  | .cell n => match S[n]? with
    | some (.lst _) => some "list"
    | some (.dK _ _) => some "dict"
    | _ => none
  | _ => none
theorem tyS_ok {K : PySem.W.Frag} (hK : G.K = K) {w : Wd} {S : Store} {H : Hp} {x : V} {d : D} {t : String} (k : Wok G w S H) (r : RepD G w x d) (h : tyS S d = some t) : TyX K H x (.type t) := by
  cases d with
  | p q =>
    cases q <;> simp only [tyS] at h <;> first | (cases h; done) | skip
    · cases h; rw [rep_non] at r; subst r; exact .base .non
    · cases h; rw [rep_bl] at r; subst r; exact .base (.bl _)
    · cases h; rw [rep_int] at r; subst r; exact .base (.int _)
    · cases h; rw [rep_str] at r; subst r; exact .base (.str _)
    · cases h
      obtain ⟨p, xs, rfl, z, rs⟩ := rep_tup.mp r
      rw [hK] at z
      rcases z with (z | ⟨o, z⟩) | ⟨o, its, n, z, c, _⟩
      · exact .base (.tup (k.sub _ _ z))
      · exact .fTuple (k.sub _ _ z)
      · exact .kTuple z c
    · cases h; obtain ⟨p, xs, rfl, z, rs⟩ := rep_lst.mp r; exact .base (.lst (k.sub _ _ z))
    · cases h; simp only [RepD, Rep] at r; obtain ⟨p, xs, rfl, z, _⟩ := r; exact .base (.dK (k.sub _ _ z))
    · cases h; simp only [RepD, Rep] at r; obtain ⟨p, xs, rfl, z, _⟩ := r; exact .base (.dT (k.sub _ _ z))
  | cell n =>
    obtain ⟨a, rfl, q⟩ := rep_cell.mp r
    simp only [tyS] at h
    split at h
    · rename_i ds hs
      cases h
      obtain ⟨_, vs, hv, rs⟩ := k.cells n _ a hs q
      exact .base (.lst hv)
    · rename_i ks ds hs
      cases h
      obtain ⟨_, vs, hv, _⟩ := k.cells n _ a hs q
      exact .base (.dK hv)
    · cases h
def isB (a b : String) : Bool := a == b || (a == "bool" && b == "int")
theorem isB_ok : ∀ a ∈ ["NoneType", "bool", "int", "str", "tuple", "list", "dict"], ∀ b ∈ ["bool", "int", "str", "tuple", "list", "dict"], kitB a b = some (isB a b) := by decide +kernel
theorem tyS_mem {S : Store} {d : D} {t : String} (h : tyS S d = some t) : t ∈ ["NoneType", "bool", "int", "str", "tuple", "list", "dict"] := by
  cases d with
  | p q => cases q <;> simp only [tyS] at h <;> first | (cases h; done) | (cases h; simp)
  | cell n =>
    simp only [tyS] at h
    split at h <;> first | (cases h; done) | (cases h; simp)
/-- isinstance(d, T), T one built-in class -/
def dIsi (d d' : D) (S : Store) (Q : DK) : Prop := match d' with
  | .p (.ty T) => T ∈ ["bool", "int", "str", "tuple", "list", "dict"] ∧ match tyS S d with
    | some t => Q (.p (.bl (isB t T))) S
    | none => False
  | _ => False
theorem cl_isi (hK : X.K = G.K) : CallL G X (.builtin "isinstance") (b2 dIsi) := by
  refine CallL.mk2 call_isi (fun x y H Q w S d d' k r r' q => ?_) (fun d d' S Q Q' hq q => ?_)
  · unfold dIsi at q
    split at q
    · rename_i T
      obtain ⟨hT, q⟩ := q
      split at q
      · rename_i t e
        rw [rep_ty] at r'
        subst r'
        exact ⟨x, _, _, _, _, rfl, .ty T, tyS_ok hK.symm k r e, kit_ty (isB_ok t (tyS_mem e) T hT), q.here k (rep_bl.mpr rfl)⟩
      · exact q.elim
    · exact q.elim
  · unfold dIsi at q ⊢
    split at q
    · refine ⟨q.1, ?_⟩
      have q := q.2
      split at q
      · exact hq _ _ q
      · exact q.elim
    · exact q.elim
/-- isinstance(e, (T, T')) -/
def wIsi2 (T T' : String) (m : WE) : WE := fun r S Q E => m r S (fun d S1 => match tyS S1 d with
  | some t => Q (.p (.bl (isB t T || isB t T'))) S1
  | none => False) E
theorem re_isi2 {p pos p1 p2 p3 : Pos} {k3 : Nat} {T T' : String} {x x' : Str} {m : WE} (hK : X.K = G.K) (he : RE G X W e m) (hg : Gl X "isinstance") (hm : X.mg "isinstance" = none) (hg1 : Gl X x) (hm1 : X.mg x = none) (hv1 : bootBuiltins x = some (.type T)) (hg2 : Gl X x') (hm2 : X.mg x' = none) (hv2 : bootBuiltins x' = some (.type T'))
    (hT : T ∈ ["bool", "int", "str", "tuple", "list", "dict"] := by decide) (hT' : T' ∈ ["bool", "int", "str", "tuple", "list", "dict"] := by decide) (hn1 : x ≠ "__name__" := by decide) (hd1 : (x == ("__debug__" : Str)) = false := by decide) (hn2 : x' ≠ "__name__" := by decide) (hd2 : (x' == ("__debug__" : Str)) = false := by decide)
    (hs : starEach [e, .Tuple [.Name x p1, .Name x' p2] k3 p3] X.env = (false, eval e X.env) :: starEach [.Tuple [.Name x p1, .Name x' p2] k3 p3] X.env := by rfl) :
    RE G X W (.Call (.Name "isinstance" p) [e, .Tuple [.Name x p1, .Name x' p2] k3 p3] [] pos) (wIsi2 T T' m) := by
  have ht := pe_tup (pos := p3) (x1 := k3) (pa_cons (pe_bltn (X := X) (pos := p1) (v := .ty T) hg1 hm1 hv1 rfl hn1 hd1) (pa_cons (pe_bltn (X := X) (pos := p2) (v := .ty T') hg2 hm2 hv2 rfl hn2 hd2) pa_nil))
  refine ⟨PE.imp (pe_callB call_isiT hg hm (by decide +kernel) (pa_cons he.pe (pa_cons ht pa_nil) hs) (he := hs)) fun σ H Q ⟨w, S, ρ, ok, en, q⟩ => ?_, fun r S Q Q' E E' hq he' h => he.mono r S _ _ _ _ (fun d S1 q => ?_) he' h⟩
  · refine tM.bind he.mono ok en q (fun _ _ _ z => z) fun d S1 y w1 H1 x1 k1 r1 q1 => ?_
    split at q1
    · rename_i t et
      refine ⟨by show 2 ≤ sizeLine; decide, fun tp hp => ?_⟩
      obtain ⟨k2, x2⟩ := k1.allocX (o := .tup [.ty T, .ty T']) hp
      have ty := tyS_ok (K := X.K) hK.symm k2 (r1.mono x2) et
      refine ⟨y, tp, _, _, [.type T, .type T'], _, rfl, upd_same, .cons (.ty T) (.cons (.ty T') .nil), ty, ?_, q1 _ w1 _ (x1.trans x2) k2 (rep_bl.mpr rfl)⟩
      refine kitAny_cons (kit_ty (isB_ok t (tyS_mem et) T hT)) (fun h1 => ?_) (fun h1 => by rw [h1]; rfl)
      refine kitAny_cons (kit_ty (isB_ok t (tyS_mem et) T' hT')) (fun h2 => ?_) (fun h2 => by rw [h2]; simp)
      rw [h1, h2]
      rfl
    · exact q1.elim
  · split at q
    · exact hq _ _ q
    · exact q.elim

/-! ### repr of a truth -/
theorem call_repr_bl : CallR X (.builtin "repr") (fun xs H Q => ∃ b, xs = [.bl b] ∧ Q (.str (if b then "True" else "False")) H) := by
  intro pins s σ H xs us Q I rx h
  obtain ⟨b, rfl, q⟩ := h
  obtain ⟨u, rfl, ru⟩ := vals1 rx
  cases ru
  exact PySem.P.repr_of_bool ⟨.str _, H, I.tok _, ⟨_, rfl⟩, q⟩
def dReprB (d : D) (S : Store) (Q : DK) : Prop := match d with
  | .p (.bl b) => Q (.p (.str (if b then "True" else "False"))) S
  | _ => False
theorem cl_reprB : CallL G X (.builtin "repr") (b1 dReprB) := by
  refine CallL.mk1 call_repr_bl (fun x H Q w S d k r q => ?_) (fun d S Q Q' hq q => ?_)
  · unfold dReprB at q
    split at q
    · rw [rep_bl] at r
      subst r
      exact ⟨_, rfl, q.here k (rep_str.mpr rfl)⟩
    · exact q.elim
  · unfold dReprB at q ⊢
    split at q
    · exact hq _ _ q
    · exact q.elim

/-! ### dicts by int and text keys -/
def klook : List Key → List P → Key → Option P
  | k' :: ks, v :: vs, k => if k' = k then some v else klook ks vs k
  | _, _, _ => none
def kset : List Key → List P → Key → P → List P
  | k' :: ks, v :: vs, k, x => (if k' = k then x else v) :: kset ks vs k x
  | _, vs, _, _ => vs
def keyOf : D → Option Key
  | .p (.int i) => some (.inl i)
  | .p (.str x) => some (.inr x)
  | _ => none
theorem keyOf_ok {w : Wd} {x : V} {d : D} {k : Key} (r : RepD G w x d) (h : keyOf d = some k) : x = kV k := by
  cases d with
  | cell n => simp [keyOf] at h
  | p q =>
    cases q <;> simp only [keyOf] at h <;> first | (cases h; done) | skip
    · cases h; exact rep_int.mp r
    · cases h; exact rep_str.mp r
theorem klook_ok {I : Hp} : ∀ {kvs : List (Key × V)} {ks : List Key} {vs : List P} {k : Key} {p : P}, kvs.map (·.1) = ks → Reps G I (kvs.map (·.2)) vs → klook ks vs k = some p → ∃ v, valV kvs k = some v ∧ Rep G I v p
  | [], _, _, _, _, h1, h2, h => by simp at h1; subst h1; simp [klook] at h
  | (k', v) :: r, _, _, k, p, h1, h2, h => by
    subst h1
    cases h2' : (‹List P› : List P) with
    | nil => subst h2'; simp [klook] at h
    | cons q qs =>
      subst h2'
      simp only [List.map_cons, Reps] at h2
      obtain ⟨v', r', e, h3, h4⟩ := h2
      simp only [List.cons.injEq] at e
      obtain ⟨rfl, rfl⟩ := e
      simp only [List.map_cons, klook] at h
      by_cases hk : k' = k
      · rw [if_pos hk] at h
        cases h
        exact ⟨v, valV_pos hk, h3⟩
      · rw [if_neg hk] at h
        obtain ⟨z, e1, e2⟩ := klook_ok rfl h4 h
        exact ⟨z, by rw [valV_neg hk]; exact e1, e2⟩
theorem kmap_ok {I : Hp} {k : Key} {x : V} {p : P} (hx : Rep G I x p) : ∀ {kvs : List (Key × V)} {vs : List P}, Reps G I (kvs.map (·.2)) vs →
    ((kvs.map fun kv => if kv.1 = k then (kv.1, x) else kv).map (·.1)) = kvs.map (·.1) ∧ Reps G I ((kvs.map fun kv => if kv.1 = k then (kv.1, x) else kv).map (·.2)) (kset (kvs.map (·.1)) vs k p)
  | [], vs, h => by
    simp only [List.map_nil] at h ⊢
    refine ⟨trivial, ?_⟩
    have := h.length
    have e : vs = [] := List.eq_nil_of_length_eq_zero (by simpa using this.symm)
    subst e
    simpa [kset] using Reps.nil
  | (k', v) :: r, vs, h => by
    cases vs with
    | nil => simp only [List.map_cons, Reps] at h; cases h
    | cons q qs =>
      simp only [List.map_cons, Reps] at h
      obtain ⟨v', r', e, h3, h4⟩ := h
      simp only [List.cons.injEq] at e
      obtain ⟨rfl, rfl⟩ := e
      obtain ⟨i1, i2⟩ := kmap_ok hx h4
      simp only [List.map_cons, kset]
      by_cases hk : k' = k
      · rw [if_pos hk, if_pos hk]
        exact ⟨by rw [i1], Reps.cons hx i2⟩
      · rw [if_neg hk, if_neg hk]
        exact ⟨by rw [i1], Reps.cons h3 i2⟩
def dDGet (d d' : D) (S : Store) (Q : DK) : Prop := match keyOf d' with
  | some k => match d with
    | .p (.dK ks vs) => match klook ks vs k with
      | some p => Q (.p p) S
      | none => False
    | .cell n => match S[n]? with
      | some (.dK ks vs) => match klook ks vs k with
        | some p => Q (.p p) S
        | none => False
      | _ => False
    | _ => False
  | none => False
theorem dDGet_mono (d d' : D) (S : Store) (Q Q' : DK) (hq : ∀ d S, Q d S → Q' d S) (q : dDGet d d' S Q) : dDGet d d' S Q' := by
  unfold dDGet at q ⊢
  split at q
  · split at q
    · split at q
      · exact hq _ _ q
      · exact q.elim
    · split at q
      · split at q
        · exact hq _ _ q
        · exact q.elim
      · exact q.elim
    · exact q.elim
  · exact q.elim
theorem re_dget {m1 m2 : WE} (hu : X.A.units + 1 < cLine) (ha : RE G X W a m1) (hb : RE G X W b m2) (hs : NoSl b := by intro _ _; rfl) : RE G X W (.Subscript a b pos) (wBin dDGet m1 m2) := by
  refine ⟨PE.imp (pe_dget hu ha.pe hb.pe hs) fun σ H Q ⟨w, S, ρ, ok, en, q⟩ => ?_, mon_bin dDGet_mono ha.mono hb.mono⟩
  refine tM2 ha.mono hb.mono ok en q fun d1 d2 S' x y w' H' x1 k r1 r2 q => ?_
  unfold dDGet at q
  split at q
  · rename_i ky e
    have ey := keyOf_ok r2 e
    subst ey
    split at q
    · split at q
      · rename_i ks vs p e2
        simp only [RepD, Rep] at r1
        obtain ⟨a, kvs, rfl, z, h1, h2⟩ := r1
        obtain ⟨v, h3, h4⟩ := klook_ok h1 h2 e2
        exact ⟨a, v, rfl, by rw [← h3]; exact DGet.k (k.sub _ _ z), q v w' H' x1 k h4⟩
      · exact q.elim
    · split at q
      · rename_i hs
        split at q
        · rename_i p e2
          obtain ⟨a, rfl, hn⟩ := rep_cell.mp r1
          obtain ⟨_, kvs, z, h1, h2⟩ := k.cells _ _ a hs hn
          obtain ⟨v, h3, h4⟩ := klook_ok h1 h2 e2
          exact ⟨a, v, rfl, by rw [← h3]; exact DGet.k z, q v w' H' x1 k h4⟩
        · exact q.elim
      · exact q.elim
    · exact q.elim
  · exact q.elim
/-- {} -/
def wDNew : WE := fun _ S Q _ => Q (.p (.dK [] [])) S
theorem re_dnew : RE G X W (.Dict [] [] pos) wDNew := by
  refine ⟨PE.imp pe_dnewK fun σ H Q ⟨w, S, ρ, ok, en, q⟩ => fun p hp => ?_, fun _ _ _ _ _ _ hq _ h => hq _ _ h⟩
  obtain ⟨k2, x2⟩ := ok.alloc (o := .dK []) hp
  refine q (.ref p) _ _ x2 k2 ?_
  simp only [RepD, Rep]
  exact ⟨p, [], rfl, upd_same, rfl, by simpa using Reps.nil⟩
end
end RB
/-! The lifted layer: dict displays, targets, what is walked, comprehensions. -/
namespace RB
open PySem PySem.Spec PyProof.Rows L2
section
variable {G : Glob} {X : Cx} {W : WX} {e a b c : Expr} {pos : Pos}

/-! ### {k: v, ..} -/
def wPairs : List (WE × WE) → Rho → Store → (List (D × D) → Store → Prop) → EK → Prop
  | [], _, S, Q, _ => Q [] S
  | (k, v) :: ms, r, S, Q, E => k r S (fun dk S1 => v r S1 (fun dv S2 => wPairs ms r S2 (fun ps S3 => Q ((dk, dv) :: ps) S3) E) E) E
structure RPs (G : Glob) (X : Cx) (W : WX) (pos : Pos) (keys : List (Option Expr)) (values : List Expr) (ms : List (WE × WE)) : Prop where
  pp : PPs X pos keys values (ms.map fun p => (tM G W p.1, tM G W p.2))
  mono : ∀ p ∈ ms, Mon p.1 ∧ Mon p.2
theorem rp_nil : RPs G X W pos [] [] [] := ⟨pps_nil, fun _ h => nomatch h⟩
theorem rp_cons {k v : Expr} {ks : List (Option Expr)} {vs : List Expr} {mk mv : WE} {ms : List (WE × WE)} (hk : RE G X W k mk) (hv : RE G X W v mv) (hr : RPs G X W pos ks vs ms) : RPs G X W pos (some k :: ks) (v :: vs) ((mk, mv) :: ms) :=
  ⟨pps_cons hk.pe hv.pe hr.pp, fun p hp => by
    rcases List.mem_cons.mp hp with rfl | hp
    · exact ⟨hk.mono, hv.mono⟩
    · exact hr.mono p hp⟩
theorem wPairs_mono : ∀ {ms : List (WE × WE)}, (∀ p ∈ ms, Mon p.1 ∧ Mon p.2) → ∀ r S Q Q' E E', (∀ d S, Q d S → Q' d S) → (∀ x S, E x S → E' x S) → wPairs ms r S Q E → wPairs ms r S Q' E'
  | [], _, _, _, _, _, _, _, hq, _, h => hq _ _ h
  | (k, v) :: ms, hm, r, S, Q, Q', E, E', hq, he, h => by
    obtain ⟨h1, h2⟩ := hm (k, v) List.mem_cons_self
    exact h1 r S _ _ _ _ (fun dk S1 q1 => h2 r S1 _ _ _ _ (fun dv S2 q2 => wPairs_mono (fun p hp => hm p (List.mem_cons_of_mem _ hp)) r S2 _ _ _ _ (fun ps S3 q3 => hq _ _ q3) he q2) he q1) he h
def RepPs (G : Glob) (w : Wd) : List (V × V) → List (D × D) → Prop
  | [], [] => True
  | (x, y) :: r, (d, d') :: t => RepD G w x d ∧ RepD G w y d' ∧ RepPs G w r t
  | _, _ => False
theorem tPairs_in : ∀ {ms : List (WE × WE)}, (∀ p ∈ ms, Mon p.1 ∧ Mon p.2) → ∀ {σ : L2.St} {H : Hp} {w : Wd} {S : Store} {r : Rho} {k : List (D × D) → Store → Prop} {Q : List (V × V) → Hp → Prop}, Wok G w S H → EnvOk G w σ r →
    wPairs ms r S k (Qx G w H fun c d H' => W c d σ H') → (∀ ps S' vs w' H', Ext w H w' H' → Wok G w' S' H' → RepPs G w' vs ps → k ps S' → Q vs H') → tPairs (ms.map fun p => (tM G W p.1, tM G W p.2)) σ H Q
  | [], _, σ, H, w, S, r, k, Q, ok, en, h, hk => hk [] S [] w H (Ext.refl w H) ok trivial h
  | (mk, mv) :: ms, hm, σ, H, w, S, r, k, Q, ok, en, h, hk => by
    obtain ⟨h1, h2⟩ := hm (mk, mv) List.mem_cons_self
    refine tM2 (k := fun dk dv S2 => wPairs ms r S2 (fun ps S3 => k ((dk, dv) :: ps) S3) (Qx G w H fun c d H' => W c d σ H')) h1 h2 ok en h fun d1 d2 S' x y w' H' x1 k1 r1 r2 q => ?_
    have hm' : ∀ p ∈ ms, Mon p.1 ∧ Mon p.2 := fun p hp => hm p (List.mem_cons_of_mem _ hp)
    refine tPairs_in hm' (k := fun ps S3 => k ((d1, d2) :: ps) S3) k1 (en.mono x1) (wPairs_mono hm' r S' _ _ _ _ (fun _ _ q => q) (fun y S' q => q.ext x1) q) fun ps S3 vs w3 H3 x3 k3 r3 q3 => ?_
    exact hk ((d1, d2) :: ps) S3 ((x, y) :: vs) w3 H3 (x1.trans x3) k3 ⟨r1.mono x3, r2.mono x3, r3⟩ q3
/-- keys and data -/
def kvsOf : List (D × D) → Option (List Key × List P)
  | [] => some ([], [])
  | (dk, .p v) :: r => match keyOf dk, kvsOf r with
    | some k, some (ks, vs) => some (k :: ks, v :: vs)
    | _, _ => none
  | (_, .cell _) :: _ => none
theorem kvsOf_ok {w : Wd} : ∀ {ps : List (D × D)} {vs : List (V × V)} {ks : List Key} {ds : List P}, RepPs G w vs ps → kvsOf ps = some (ks, ds) → ∃ kvs : List (Key × V), vs = kvs.map (fun kv => (kV kv.1, kv.2)) ∧ kvs.map (·.1) = ks ∧ Reps G w.I (kvs.map (·.2)) ds
  | [], [], _, _, _, h => by simp only [kvsOf] at h; cases h; exact ⟨[], rfl, rfl, by simpa using Reps.nil⟩
  | (dk, .p d) :: ps, (x, y) :: vs, _, _, ⟨h1, h2, h3⟩, h => by
    simp only [kvsOf] at h
    split at h
    · rename_i k ks vs' e1 e2
      cases h
      obtain ⟨kvs, a1, a2, a3⟩ := kvsOf_ok h3 e2
      have ex := keyOf_ok h1 e1
      subst ex
      exact ⟨(k, y) :: kvs, by rw [a1]; rfl, by rw [← a2]; rfl, Reps.cons h2 a3⟩
    · cases h
  | (_, .cell _) :: _, _ :: _, _, _, _, h => by simp [kvsOf] at h
  | [], _ :: _, _, _, h, _ => h.elim
  | _ :: _, [], _, _, h, _ => h.elim
theorem putK_new {kvs : List (Key × V)} {k : Key} {v : V} (h : k ∉ kvs.map (·.1)) : putK kvs k v = kvs ++ [(k, v)] := by
  unfold putK
  rw [if_neg]
  intro z
  rw [List.any_eq_true] at z
  obtain ⟨x, hx, e⟩ := z
  exact h (List.mem_map.mpr ⟨x, hx, of_decide_eq_true e⟩)
theorem mergeK_nodup : ∀ {more kvs : List (Key × V)}, ((kvs ++ more).map (·.1)).Nodup → mergeK kvs more = kvs ++ more
  | [], kvs, _ => by simp [mergeK]
  | (k, v) :: r, kvs, h => by
    show mergeK (putK kvs k v) r = _
    have hk : k ∉ kvs.map (·.1) := fun z => by
      rw [List.map_append, List.nodup_append] at h
      exact h.2.2 k z k (by simp) rfl
    rw [putK_new hk, mergeK_nodup (by simpa using h)]
    simp
def wDict (fin : List Key → List P → Store → DK → Prop) (ms : List (WE × WE)) : WE := fun r S Q E => wPairs ms r S (fun ps S1 => match kvsOf ps with
  | some (ks, vs) => ks.Nodup ∧ ks.length ≤ 15 ∧ fin ks vs S1 Q
  | none => False) E
theorem re_dict {keys : List (Option Expr)} {values : List Expr} {ms : List (WE × WE)} (h : RPs G X W pos keys values ms) (hall : keys.all (·.isSome) = true) (hl : keys.length = values.length) (h0 : keys ≠ []) (h15 : keys.length ≤ 15) :
    RE G X W (.Dict keys values pos) (wDict (fun ks vs S Q => Q (.p (.dK ks vs)) S) ms) := by
  refine ⟨PE.imp (pe_disp h.pp hall hl h0 h15) fun σ H Q ⟨w, S, ρ, ok, en, q⟩ => fun p hp => ?_, fun r S Q Q' E E' hq he h' => wPairs_mono h.mono r S _ _ _ _ (fun d S1 q => ?_) he h'⟩
  · obtain ⟨k1, x1⟩ := ok.allocX (o := .dK []) hp
    refine tPairs_in h.mono k1 (en.mono x1) (wPairs_mono h.mono ρ S _ _ _ _ (fun _ _ q => q) (fun y S' q => q.ext x1) q) fun ps S' vs w' H' x2 k2 r2 q2 => ?_
    split at q2
    · rename_i ks ds e
      obtain ⟨nd, l15, q2⟩ := q2
      obtain ⟨kvs, a1, a2, a3⟩ := kvsOf_ok r2 e
      have np : p ∉ w.as := ok.freeAs hp
      have hp2 : H' p = some (.dK []) := x2.frame p _ upd_same np
      obtain ⟨np2, ni⟩ := x2.fresh p _ upd_same np
      have ni := ni (ok.freeI hp)
      have l : kvs.length = ks.length := by rw [← a2, List.length_map]
      refine ⟨hp2, kvs, a1, by rw [l]; exact l15, ?_⟩
      rw [mergeK_nodup (kvs := []) (by rw [List.nil_append, a2]; exact nd), List.nil_append]
      have xx : Ext w H ⟨upd w'.I p (.dK kvs), w'.as⟩ (upd H' p (.dK kvs)) := by
        have x3 := x1.trans x2
        obtain ⟨t, ht⟩ := x3.as
        refine ⟨fun b o z => ?_, ⟨t, ht⟩, fun b o z n => ?_, fun b o z n => ⟨(x3.fresh b o z n).1, fun i => ?_⟩, fun b o z => ?_⟩
        · have := x3.I b o z
          have nb : b ≠ p := fun zz => by rw [zz, ni] at this; cases this
          show upd w'.I p _ b = _
          rw [upd_ne nb]; exact this
        · rw [upd_ne (ne_of_none z hp)]; exact x3.frame b o z n
        · show upd w'.I p _ b = none
          rw [upd_ne (ne_of_none z hp)]; exact (x3.fresh b o z n).2 i
        · obtain ⟨o', z'⟩ := x3.there b o z
          exact ⟨o', by rw [upd_ne (ne_of_none z hp)]; exact z'⟩
      refine q2 (.ref p) _ _ xx ⟨fun b o z => ?_, k2.len, k2.nd, fun n c b h1 h2 => ?_⟩ ?_
      · have z : upd w'.I p (.dK kvs) b = some o := z
        by_cases eb : b = p
        · subst eb; rw [upd_same] at z ⊢; exact z
        · rw [upd_ne eb] at z ⊢; exact k2.sub b o z
      · have h2 : w'.as[n]? = some b := h2
        have nb : b ≠ p := fun zz => np2 (zz ▸ List.mem_of_getElem? h2)
        refine (k2.cells n c b h1 h2).grow (Same.upd _ ni) (fun i => ?_) (upd_ne nb)
        show upd w'.I p _ b = none
        rw [upd_ne nb]; exact i
      · simp only [RepD, Rep]
        exact ⟨p, kvs, rfl, upd_same, a2, a3.mono (Same.upd _ ni)⟩
    · exact q2.elim
  · split at q
    · exact ⟨q.1, q.2.1, hq _ _ q.2.2⟩
    · exact q.elim
/-- .. that will change -/
theorem re_dictC {keys : List (Option Expr)} {values : List Expr} {ms : List (WE × WE)} (h : RPs G X W pos keys values ms) (hall : keys.all (·.isSome) = true) (hl : keys.length = values.length) (h0 : keys ≠ []) (h15 : keys.length ≤ 15) :
    RE G X W (.Dict keys values pos) (wDict (fun ks vs S Q => Q (.cell S.length) (S ++ [.dK ks vs])) ms) := by
  refine ⟨PE.imp (pe_disp h.pp hall hl h0 h15) fun σ H Q ⟨w, S, ρ, ok, en, q⟩ => fun p hp => ?_, fun r S Q Q' E E' hq he h' => wPairs_mono h.mono r S _ _ _ _ (fun d S1 q => ?_) he h'⟩
  · obtain ⟨k1, x1⟩ := ok.allocX (o := .dK []) hp
    refine tPairs_in h.mono k1 (en.mono x1) (wPairs_mono h.mono ρ S _ _ _ _ (fun _ _ q => q) (fun y S' q => q.ext x1) q) fun ps S' vs w' H' x2 k2 r2 q2 => ?_
    split at q2
    · rename_i ks ds e
      obtain ⟨nd, l15, q2⟩ := q2
      obtain ⟨kvs, a1, a2, a3⟩ := kvsOf_ok r2 e
      have np : p ∉ w.as := ok.freeAs hp
      have hp2 : H' p = some (.dK []) := x2.frame p _ upd_same np
      obtain ⟨np2, ni⟩ := x2.fresh p _ upd_same np
      have ni := ni (ok.freeI hp)
      have l : kvs.length = ks.length := by rw [← a2, List.length_map]
      refine ⟨hp2, kvs, a1, by rw [l]; exact l15, ?_⟩
      rw [mergeK_nodup (kvs := []) (by rw [List.nil_append, a2]; exact nd), List.nil_append]
      have x3 := x1.trans x2
      obtain ⟨t, ht⟩ := x3.as
      have xx : Ext w H ⟨w'.I, w'.as ++ [p]⟩ (upd H' p (.dK kvs)) := by
        refine ⟨x3.I, ⟨t ++ [p], by show w'.as ++ [p] = _; rw [ht, List.append_assoc]⟩, fun b o z n => ?_, fun b o z n => ⟨?_, (x3.fresh b o z n).2⟩, fun b o z => ?_⟩
        · rw [upd_ne (ne_of_none z hp)]; exact x3.frame b o z n
        · show b ∉ w'.as ++ [p]
          simp only [List.mem_append, List.mem_singleton, not_or]
          exact ⟨(x3.fresh b o z n).1, ne_of_none z hp⟩
        · obtain ⟨o', z'⟩ := x3.there b o z
          exact ⟨o', by rw [upd_ne (ne_of_none z hp)]; exact z'⟩
      refine q2 (.ref p) _ _ xx ⟨fun b o z => ?_, ?_, ?_, fun n c b h1 h2 => ?_⟩ ⟨p, rfl, ?_⟩
      · have z : w'.I b = some o := z
        have nb : b ≠ p := fun zz => by rw [zz, ni] at z; cases z
        rw [upd_ne nb]; exact k2.sub b o z
      · show (w'.as ++ [p]).length = (S' ++ [_]).length
        simp [k2.len]
      · show (w'.as ++ [p]).Nodup
        rw [List.nodup_append]
        exact ⟨k2.nd, by simp, fun a ha b hb => by simp at hb; subst hb; exact fun z => np2 (z ▸ ha)⟩
      · have h2 : (w'.as ++ [p])[n]? = some b := h2
        by_cases hn : n < S'.length
        · rw [List.getElem?_append_left hn] at h1
          rw [List.getElem?_append_left (by rw [k2.len]; exact hn)] at h2
          have nb : b ≠ p := fun z => np2 (z ▸ List.mem_of_getElem? h2)
          exact (k2.cells n c b h1 h2).grow (Same.refl _) (fun z => z) (upd_ne nb)
        · have e : n = S'.length := by
            have := (List.getElem?_eq_some_iff.mp h1).1
            simp at this; omega
          subst e
          rw [List.getElem?_append_right (Nat.le_refl _)] at h1
          rw [List.getElem?_append_right (by rw [k2.len]; exact Nat.le_refl _)] at h2
          simp [k2.len] at h1 h2
          subst h1; subst h2
          exact ⟨ni, kvs, upd_same, a2, a3⟩
      · show (w'.as ++ [p])[S'.length]? = some p
        rw [← k2.len]
        simp
    · exact q2.elim
  · split at q
    · exact ⟨q.1, q.2.1, hq _ _ q.2.2⟩
    · exact q.elim

/-! ### targets -/
inductive Tgt where
  | nm (i : Nat)
  | tp (is : List Nat)
def gNames : List Nat → TGs
  | [] => gNil
  | i :: r => gCons (gName i) (gNames r)
def gT (K : PySem.W.Frag) : Tgt → TG
  | .nm i => gName i
  | .tp is => gTup K is.length (gNames is)
def setAll : List Nat → List P → Rho → Rho
  | i :: is, p :: ps, r => setAll is ps (r.set i (some (.p p)))
  | _, _, r => r
def bindT (T : Tgt) (d : D) (r : Rho) : Option Rho := match T with
  | .nm i => some (r.set i (some d))
  | .tp is => match d with
    | .p (.tup ps) => if ps.length = is.length then some (setAll is ps r) else none
    | _ => none
def Tgt.slots : Tgt → List Nat
  | .nm i => [i]
  | .tp is => is
theorem wipe_set {σ : L2.St} {i : Nat} {x : Option V} : ∀ {vs : List Nat}, i ∈ vs → wipe (σ.set i x) vs = wipe σ vs
  | [], h => nomatch h
  | v :: vs, h => by
    unfold wipe
    by_cases e : i ∈ vs
    · rw [wipe_set e]
    · have : i = v := by
        rcases List.mem_cons.mp h with h | h
        · exact h
        · exact absurd h e
      subst this
      have aux : ∀ us : List Nat, (wipe (σ.set i x) us).set i none = (wipe σ us).set i none := by
        intro us
        induction us with
        | nil => unfold wipe; exact List.set_set ..
        | cons u us ih =>
          unfold wipe
          by_cases eu : u = i
          · subst eu; rw [ih]
          · rw [List.set_comm _ _ eu, ih, List.set_comm _ _ (Ne.symm eu)]
      exact aux vs
theorem gNames_ok {w : Wd} {H : Hp} {Q : L2.St → Hp → Prop} : ∀ {is : List Nat} {ps : List P} {vs : List V} {σ : L2.St} {r : Rho}, Reps G w.I vs ps → ps.length = is.length → EnvOk G w σ r →
    (∀ σ', EnvOk G w σ' (setAll is ps r) → (∀ us, (∀ i ∈ is, i ∈ us) → wipe σ' us = wipe σ us) → Q σ' H) → gNames is vs σ H Q
  | [], ps, vs, σ, r, rp, l, en, q => by
    have : ps = [] := List.eq_nil_of_length_eq_zero l
    subst this
    simp only [Reps] at rp
    exact ⟨rp, q σ (by simpa [setAll] using en) fun _ _ => rfl⟩
  | i :: is, [], _, _, _, _, l, _, _ => by simp at l
  | i :: is, p :: ps, vs, σ, r, rp, l, en, q => by
    simp only [Reps] at rp
    obtain ⟨v, t, e, h1, h2⟩ := rp
    refine ⟨v, t, e, gNames_ok h2 (by simpa using l) (en.set (d := .p p) h1 i) fun σ' en' hw => q σ' en' fun us hu => ?_⟩
    rw [hw us fun j hj => hu j (List.mem_cons_of_mem _ hj), wipe_set (hu i List.mem_cons_self)]
theorem gT_ok {K : PySem.W.Frag} (hK : G.K = K) {w : Wd} {S : Store} {H : Hp} {Q : L2.St → Hp → Prop} {T : Tgt} {d : D} {v : V} {σ : L2.St} {r r' : Rho} (k : Wok G w S H) (rv : RepD G w v d) (en : EnvOk G w σ r) (hb : bindT T d r = some r')
    (q : ∀ σ', EnvOk G w σ' r' → (∀ us, (∀ i ∈ T.slots, i ∈ us) → wipe σ' us = wipe σ us) → Q σ' H) : gT K T v σ H Q := by
  cases T with
  | nm i =>
    simp only [bindT] at hb
    cases hb
    exact q _ (en.set rv i) fun us hu => wipe_set (hu i List.mem_cons_self)
  | tp is =>
    simp only [bindT] at hb
    split at hb
    · rename_i ps
      split at hb
      · rename_i l
        cases hb
        obtain ⟨p, xs, rfl, z, rs⟩ := rep_tup.mp rv
        exact ⟨p, xs, rfl, Same.tup k.sub (hK ▸ z), by rw [rs.length]; exact l, gNames_ok rs l en q⟩
      · cases hb
    · cases hb
end
end RB
/-! The lifted layer: what is walked, comprehensions. -/
namespace RB
open PySem PySem.Spec PyProof.Rows L2
section
variable {G : Glob} {X : Cx} {W : WX} {e a b c : Expr} {pos : Pos}

/-- what comes at turn i -/
def Yld (G : Glob) (w : Wd) (ds : List D) : Nat → Hp → V → Hp → Prop := fun i H x H' => ∃ d, ds[i]? = some d ∧
  ((H' = H ∧ ∀ w2, Same w.I w2.I → RepD G w2 x d) ∨ ∃ T xs ps, d = .p (.tup ps) ∧ x = .ref T ∧ H T = none ∧ H' = upd H T (.tup xs) ∧ Reps G w.I xs ps)
def IterOf (G : Glob) (w : Wd) (J : It) (ds : List D) : Prop := Walk J ds.length (fun H => Same w.I H) (Yld G w ds)
def tMi (G : Glob) (W : WX) (m : WA) : TI := fun σ H R => ∃ w S r, Wok G w S H ∧ EnvOk G w σ r ∧ m r S (fun ds S' => ∀ J w' H', Ext w H w' H' → Wok G w' S' H' → IterOf G w' J ds → R J H') (Qx G w H fun c d H' => W c d σ H')
structure RI (G : Glob) (X : Cx) (W : WX) (tg iter : Expr) (m : WA) : Prop where
  pi : PI X tg iter (tMi G W m)
  mono : MonA m
theorem PI.imp {tg iter : Expr} {t u : TI} (h : PI X tg iter t) (i : ∀ σ H Q, u σ H Q → t σ H Q) : PI X tg iter u := ⟨fun pins s σ H Q I q => h.run pins s σ H Q I (i σ H Q q)⟩
/-- the items of a list, a tuple, a text -/
def itemsOf (S : Store) : D → Option (List D)
  | .p (.lst ds) => some (ds.map D.p)
  | .p (.scr ds) => some (ds.map D.p)
  | .p (.tup ds) => some (ds.map D.p)
  | .p (.str z) => some (z.cps.toList.map fun c => .p (.str ⟨#[c]⟩))
  | _ => none
def wIt (m : WE) : WA := fun r S Q E => m r S (fun d S1 => match itemsOf S1 d with
  | some ds => Q ds S1
  | none => False) E
theorem rep_pure {w w2 : Wd} {x : V} {p : P} (r : Rep G w.I x p) (s : Same w.I w2.I) : RepD G w2 x (.p p) := r.mono s
theorem ri_seq {tg : Expr} {m : WE} (hK : X.K = G.K) (he : RE G X W e m) : RI G X W tg e (wIt m) := by
  refine ⟨⟨fun pins s σ H R I ⟨w, S, ρ, ok, en, q⟩ => ?_⟩, fun r S Q Q' E E' hq he' h => he.mono r S _ _ _ _ (fun d S1 q => ?_) he' h⟩
  · have h1 : tM G W m σ H fun x H1 => ∃ d S1 w1, Ext w H w1 H1 ∧ Wok G w1 S1 H1 ∧ RepD G w1 x d ∧ (match itemsOf S1 d with
      | some ds => ∀ J w' H', Ext w H w' H' → Wok G w' S1 H' → IterOf G w' J ds → R J H'
      | none => False) := tM.bind he.mono ok en q (fun _ _ _ z => z) fun d S' v w' H' x k r q => ⟨d, S', w', x, k, r, q⟩
    refine thn (he.pe.run pins s σ H _ I h1) fun v s1 hv => ?_
    obtain ⟨x, H1, I1, rx, d, S1, w1, x1, k1, r1, q1⟩ := hv
    split at q1
    · rename_i ds hi
      unfold itemsOf at hi
      split at hi
      · rename_i ps
        cases hi
        obtain ⟨p, xs, rfl, z, rs⟩ := rep_lst.mp r1
        cases rx
        have hq : SqL X.K H1 p xs := SqL.of (k1.sub _ _ z)
        obtain ⟨its, _, pl, _⟩ := I1.list hq
        have R1 : R (Itl X.K p) H1 := q1 _ w1 H1 x1 k1 (by
          have W1 := walk_list (K := X.K) (a := p) (xs := xs)
          have l := rs.length
          unfold IterOf
          rw [List.length_map, ← l]
          refine W1.mono (fun H2 h2 => SqL.of (h2 _ _ z)) fun i H2 y H3 hi2 _ hy => ?_
          obtain ⟨d, hd, rd⟩ := rs.get' hy.2
          exact ⟨.p d, by rw [List.getElem?_map, hd]; rfl, .inl ⟨hy.1, fun w2 s2 => rep_pure rd s2⟩⟩)
        exact wpAny_pyIter_list pl.isList (pi_one (tk := s1.toks) I1 _ (turn_list p _) ⟨_, Heap.get?_push_size _ rfl, rfl, rfl⟩ R1)
      · rename_i ps
        cases hi
        obtain ⟨p, xs, rfl, z, rs⟩ := rep_scr.mp r1
        cases rx
        rw [← hK] at z
        have hq : SqL X.K H1 p xs := Same.seq k1.sub z
        obtain ⟨its, _, pl, _⟩ := I1.list hq
        have R1 : R (Itl X.K p) H1 := q1 _ w1 H1 x1 k1 (by
          have W1 := walk_list (K := X.K) (a := p) (xs := xs)
          have l := rs.length
          unfold IterOf
          rw [List.length_map, ← l]
          refine W1.mono (fun H2 h2 => Same.seq h2 z) fun i H2 y H3 hi2 _ hy => ?_
          obtain ⟨d, hd, rd⟩ := rs.get' hy.2
          exact ⟨.p d, by rw [List.getElem?_map, hd]; rfl, .inl ⟨hy.1, fun w2 s2 => rep_pure rd s2⟩⟩)
        exact wpAny_pyIter_list pl.isList (pi_one (tk := s1.toks) I1 _ (turn_list p _) ⟨_, Heap.get?_push_size _ rfl, rfl, rfl⟩ R1)
      · rename_i ps
        cases hi
        obtain ⟨p, xs, rfl, z, rs⟩ := rep_tup.mp r1
        cases rx
        rw [← hK] at z
        have hq : SqT X.K H1 p xs := Same.tup k1.sub z
        obtain ⟨its, _, pl, _⟩ := I1.tuple hq
        have R1 : R (Itt X.K p) H1 := q1 _ w1 H1 x1 k1 (by
          have W1 := walk_tup (K := X.K) (a := p) (xs := xs)
          have l := rs.length
          unfold IterOf
          rw [List.length_map, ← l]
          refine W1.mono (fun H2 h2 => Same.tup h2 z) fun i H2 y H3 hi2 _ hy => ?_
          obtain ⟨d, hd, rd⟩ := rs.get' hy.2
          exact ⟨.p d, by rw [List.getElem?_map, hd]; rfl, .inl ⟨hy.1, fun w2 s2 => rep_pure rd s2⟩⟩)
        exact wpAny_pyIter_tuple (show s1.heap.IsTuple p its.toArray from pl) (pi_one (tk := s1.toks) I1 _ (turn_tuple p _) ⟨_, Heap.get?_push_size _ rfl, rfl, rfl⟩ R1)
      · rename_i z
        cases hi
        have ex := rep_str.mp r1
        subst ex
        obtain ⟨t, rfl⟩ := rx
        have R1 : R (Its z) H1 := q1 _ w1 H1 x1 k1 (by
          have W1 := walk_str (z := z)
          unfold IterOf
          rw [List.length_map, Array.length_toList]
          refine W1.mono (fun H2 h2 => trivial) fun i H2 y H3 hi2 _ hy => ?_
          obtain ⟨e1, c, h1, h2⟩ := hy
          exact ⟨.p (.str ⟨#[c]⟩), by rw [List.getElem?_map, Array.getElem?_toList, h1]; rfl, .inl ⟨e1, fun w2 s2 => rep_str.mpr h2⟩⟩)
        cases ha : z.cps.all (· < 128) with
        | false => exact wpAny_pyIter_wide ha (pi_one (tk := s1.toks) I1 _ (turn_str _ z t "str_iterator" (.inr rfl)) ⟨_, Heap.get?_push_size _ rfl, rfl, rfl⟩ R1)
        | true => exact wpAny_pyIter_ascii ha (pi_one (tk := s1.toks) I1 _ (turn_str _ z t "str_ascii_iterator" (.inl rfl)) ⟨_, Heap.get?_push_size _ rfl, rfl, rfl⟩ R1)
      · cases hi
    · exact q1.elim
  · split at q
    · exact hq _ _ q
    · exact q.elim
/-- lo, lo + 1, .. -/
def rngD (lo : Int) (n : Nat) : List D := (List.range n).map fun (i : Nat) => D.p (.int (lo + (i : Int)))
theorem iter_range {w : Wd} {lo : Int} {n : Nat} : IterOf G w (Itr lo n) (rngD lo n) := by
  have W1 := walk_range (lo := lo) (n := n)
  unfold IterOf
  rw [show (rngD lo n).length = n by simp [rngD]]
  refine W1.mono (fun H2 h2 => trivial) fun i H2 y H3 hi2 _ hy => ?_
  exact ⟨.p (.int (lo + (i : Int))), by simp [rngD, hi2], .inl ⟨hy.1, fun w2 s2 => rep_int.mpr hy.2⟩⟩
def wRng (m : WA) : WA := fun r S Q E => m r S (fun ds S1 => match ds with
  | [.p (.int j)] => -(2 ^ 62) ≤ j ∧ j < 2 ^ 62 ∧ Q (rngD 0 j.toNat) S1
  | [.p (.int i), .p (.int j)] => (-(2 ^ 62) ≤ i ∧ i < 2 ^ 62 ∧ -(2 ^ 62) ≤ j ∧ j < 2 ^ 62) ∧ Q (rngD i (j - i).toNat) S1
  | _ => False) E
theorem wRng_mono {m : WA} (h : MonA m) : MonA (wRng m) := fun r S Q Q' E E' hq he h' => h r S _ _ _ _ (fun d S1 q => by
  split at q
  · exact ⟨q.1, q.2.1, hq _ _ q.2.2⟩
  · exact ⟨q.1, hq _ _ q.2⟩
  · exact q.elim) he h'
def wArgN (n : Nat) (m : WA) : WA := fun r S Q E => m r S (fun ds S1 => ds.length = n ∧ Q ds S1) E
theorem ri_range1 {tg : Expr} {p pos : Pos} {m : WE} (hg : Gl X "range") (hm : X.mg "range" = none) (ha : RE G X W a m) (hs : starEach [a] X.env = [(false, eval a X.env)] := by rfl) : RI G X W tg (.Call (.Name "range" p) [a] [] pos) (wRng (wCons m wNil)) := by
  have hA : RA G X W [a] (wCons m wNil) := ra_cons ha ra_nil hs
  refine ⟨PI.imp (pi_range1 hg hm hA.pe hs) fun σ H R ⟨w, S, ρ, ok, en, q⟩ => ?_, wRng_mono hA.mono⟩
  refine ⟨w, S, ρ, ok, en, ha.mono ρ S _ _ _ _ (fun d S' q vs w' H' x k r => ?_) (fun _ _ z => z) q⟩
  obtain ⟨y, rfl, ry⟩ := reps1 r
  simp only [wNil] at q
  split at q
  · rename_i j e
    simp only [List.cons.injEq, and_true] at e
    subst e
    exact ⟨j, by rw [rep_int.mp ry], q.1, q.2.1, q.2.2 _ w' H' x k iter_range⟩
  · rename_i i j e
    simp at e
  · exact q.elim
theorem ri_range2 {tg : Expr} {p pos : Pos} {m1 m2 : WE} (hg : Gl X "range") (hm : X.mg "range" = none) (ha : RE G X W a m1) (hb : RE G X W b m2) (hs : starEach [a, b] X.env = [(false, eval a X.env), (false, eval b X.env)] := by rfl) (hs2 : starEach [b] X.env = [(false, eval b X.env)] := by rfl) :
    RI G X W tg (.Call (.Name "range" p) [a, b] [] pos) (wRng (wCons m1 (wCons m2 wNil))) := by
  have hA : RA G X W [a, b] (wCons m1 (wCons m2 wNil)) := ra_cons ha (ra_cons hb ra_nil hs2) (by rw [hs, hs2])
  refine ⟨PI.imp (pi_range2 hg hm hA.pe hs hs2) fun σ H R ⟨w, S, ρ, ok, en, q⟩ => ?_, wRng_mono hA.mono⟩
  refine ⟨w, S, ρ, ok, en, ha.mono ρ S _ _ _ _ (fun d S' q0 => hb.mono ρ S' _ _ _ _ (fun d' S'' q1 vs w' H' x k r => ?_) (fun _ _ z => z) q0) (fun _ _ z => z) q⟩
  obtain ⟨y, z, rfl, ry, rz⟩ := reps2 r
  simp only [wNil] at q1
  split at q1
  · rename_i j e
    simp at e
  · rename_i i j e
    simp only [List.cons.injEq, and_true] at e
    obtain ⟨e1, e2⟩ := e
    subst e1; subst e2
    exact ⟨i, j, by rw [rep_int.mp ry, rep_int.mp rz], q1.1, q1.2 _ w' H' x k iter_range⟩
  · exact q1.elim

/-! ### comprehensions -/
abbrev WF : WX := fun _ _ _ _ => False
def wipeR : Rho → List Nat → Rho
  | r, [] => r
  | r, v :: vs => (wipeR r vs).set v none
theorem wipeR_len (r : Rho) : ∀ vs : List Nat, (wipeR r vs).length = r.length
  | [] => rfl
  | v :: vs => by unfold wipeR; rw [List.length_set, wipeR_len r vs]
theorem wipeR_some {r : Rho} {i : Nat} {x : D} : ∀ {vs : List Nat}, (wipeR r vs)[i]? = some (some x) → r[i]? = some (some x) ∧ i ∉ vs
  | [], h => ⟨h, by simp⟩
  | v :: vs, h => by
    unfold wipeR at h
    by_cases hi : v = i
    · subst hi
      by_cases hv : v < (wipeR r vs).length
      · rw [List.getElem?_set_self hv] at h; cases h
      · rw [List.getElem?_eq_none (by simpa using hv)] at h; cases h
    · rw [List.getElem?_set_ne hi] at h
      obtain ⟨h1, h2⟩ := wipeR_some h
      exact ⟨h1, by simp only [List.mem_cons, not_or]; exact ⟨fun e => hi e.symm, h2⟩⟩
theorem wipe_get {σ : L2.St} {i : Nat} : ∀ {vs : List Nat}, i ∉ vs → (wipe σ vs)[i]? = σ[i]?
  | [], _ => rfl
  | v :: vs, h => by
    unfold wipe
    simp only [List.mem_cons, not_or] at h
    rw [List.getElem?_set_ne (Ne.symm h.1)]
    exact wipe_get h.2
theorem EnvOk.wipe {w : Wd} {σ : L2.St} {r : Rho} (k : EnvOk G w σ r) (vs : List Nat) : EnvOk G w (L2.wipe σ vs) (wipeR r vs) := by
  refine ⟨by rw [wipeR_len, wipe_length]; exact k.len, fun i d h => ?_⟩
  obtain ⟨h1, h2⟩ := wipeR_some h
  rw [wipe_get h2]
  exact k.at_ i d h1
structure RTs (G : Glob) (X : Cx) (W : WX) (ifs : List Expr) (m : WT) : Prop where
  pts : PTs X ifs (tMt G W m)
  mono : MonT m
def wYes : WT := fun _ S Q _ => Q true S
theorem PTs.imp {ifs : List Expr} {t u : TT} (h : PTs X ifs t) (i : ∀ σ H Q, u σ H Q → t σ H Q) : PTs X ifs u := ⟨fun pins s σ H Q I q => h.run pins s σ H Q I (i σ H Q q)⟩
theorem rts_nil : RTs G X W [] wYes := ⟨PTs.imp pts_nil fun σ H Q ⟨w, S, ρ, ok, en, q⟩ => q w H (Ext.refl w H) ok, fun _ _ _ _ _ _ hq _ h => hq _ _ h⟩
theorem rts_one {t : WT} (h : RT G X W c t) : RTs G X W [c] t := ⟨pts_one h.pe, h.mono⟩
/-- the turns -/
def lcRun (T : Tgt) (mt : WT) (me : WE) (r0 : Rho) : List D → List P → Store → (List P → Store → Prop) → Prop
  | [], acc, S, k => k acc S
  | d :: ds, acc, S, k => match bindT T d r0 with
    | none => False
    | some r => mt r S (fun b S1 => if b = true then me r S1 (fun x S2 => match x with
        | .p p => acc.length < sizeLine ∧ lcRun T mt me r0 ds (acc ++ [p]) S2 k
        | .cell _ => False) (fun _ _ => False) else lcRun T mt me r0 ds acc S1 k) (fun _ _ => False)
theorem lcRun_mono {T : Tgt} {mt : WT} {me : WE} (ht : MonT mt) (he : Mon me) {r0 : Rho} : ∀ {ds : List D} {acc : List P} {S : Store} {k k' : List P → Store → Prop}, (∀ ps S, k ps S → k' ps S) → lcRun T mt me r0 ds acc S k → lcRun T mt me r0 ds acc S k'
  | [], _, _, _, _, hk, h => hk _ _ h
  | d :: ds, acc, S, k, k', hk, h => by
    unfold lcRun at h ⊢
    split at h
    · exact h.elim
    · refine ht _ _ _ _ _ _ (fun b S1 q => ?_) (fun _ _ z => z) h
      split at q
      · rename_i hb
        rw [if_pos hb]
        refine he _ _ _ _ _ _ (fun x S2 q => ?_) (fun _ _ z => z) q
        split at q
        · exact ⟨q.1, lcRun_mono ht he hk q.2⟩
        · exact q.elim
      · rename_i hb
        rw [if_neg hb]
        exact lcRun_mono ht he hk q
def wLC (mi : WA) (T : Tgt) (mt : WT) (me : WE) (vs : List Nat) : WE := fun r S Q E => mi r S (fun ds S1 => lcRun T mt me (wipeR r vs) ds [] S1 (fun ps S2 => Q (.p (.lst ps)) S2)) E
theorem mon_lc {mi : WA} {T : Tgt} {mt : WT} {me : WE} {vs : List Nat} (hi : MonA mi) (ht : MonT mt) (he : Mon me) : Mon (wLC mi T mt me vs) := fun r S Q Q' E E' hq he' h => hi r S _ _ _ _ (fun ds S1 q => lcRun_mono ht he (fun ps S z => hq _ _ z) q) he' h
theorem Wok.touch {w : Wd} {S : Store} {H : Hp} {p : Addr} {o : HO} (k : Wok G w S H) (h1 : w.I p = none) (h2 : p ∉ w.as) : Wok G w S (upd H p o) := by
  refine ⟨fun b u h => ?_, k.len, k.nd, fun n c a h3 h4 => ?_⟩
  · have nb : b ≠ p := fun z => by rw [z, h1] at h; cases h
    rw [upd_ne nb]; exact k.sub b u h
  · have ne : a ≠ p := fun z => h2 (z ▸ List.mem_of_getElem? h4)
    exact (k.cells n c a h3 h4).grow (Same.refl _) (fun z => z) (upd_ne ne)
theorem Ext.touch {w w' : Wd} {H H' : Hp} {p : Addr} {o : HO} (x : Ext w H w' H') (hp : H p = none) : Ext w H w' (upd H' p o) :=
  ⟨x.I, x.as, fun b u h n => by rw [upd_ne (ne_of_none h hp)]; exact x.frame b u h n, x.fresh, fun b u h => by
    obtain ⟨u', h'⟩ := x.there b u h
    exact ⟨u', by rw [upd_ne (ne_of_none h hp)]; exact h'⟩⟩
/-- a thing that stood aside is now data -/
theorem Wok.take {w : Wd} {S : Store} {H : Hp} {p : Addr} {o : HO} (k : Wok G w S H) (hp : H p = some o) (h1 : w.I p = none) (h2 : p ∉ w.as) : Wok G ⟨upd w.I p o, w.as⟩ S H := by
  refine ⟨fun b u h => ?_, k.len, k.nd, fun n c a h3 h4 => ?_⟩
  · have h : upd w.I p o b = some u := h
    by_cases e : b = p
    · subst e; rw [upd_same] at h; cases h; exact hp
    · rw [upd_ne e] at h; exact k.sub b u h
  · have h4 : w.as[n]? = some a := h4
    have ne : a ≠ p := fun z => h2 (z ▸ List.mem_of_getElem? h4)
    refine (k.cells n c a h3 h4).grow (Same.upd _ h1) (fun z => ?_) rfl
    show upd w.I p o a = none
    rw [upd_ne ne]; exact z
theorem Ext.take {w w' : Wd} {H H' : Hp} {p : Addr} {o : HO} (x : Ext w H w' H') (hp : H p = none) (h1 : w'.I p = none) : Ext w H ⟨upd w'.I p o, w'.as⟩ H' :=
  ⟨x.I.trans (Same.upd _ h1), x.as, x.frame, fun b u h n => ⟨(x.fresh b u h n).1, fun z => by
    show upd w'.I p o b = none
    rw [upd_ne (ne_of_none h hp)]
    exact (x.fresh b u h n).2 z⟩, x.there⟩
/-- the reading of a comprehension -/
theorem lc_in (hK : X.K = G.K) {mi : WA} {T : Tgt} {mt : WT} {me : WE} {own : List Nat} (hi : MonA mi) (ht : MonT mt) (he : Mon me) (hT : ∀ i ∈ T.slots, i ∈ own) {σ : L2.St} {H : Hp} {Q : VK} (h : tM G W (wLC mi T mt me own) σ H Q) :
    tLc (tMi G W mi) (gT X.K T) (tMt G WF mt) (tM G WF me) own σ H Q := by
  obtain ⟨w, S, ρ, ok, en, q⟩ := h
  refine ⟨w, S, ρ, ok, en, hi ρ S _ _ _ _ (fun ds S1 q1 J w1 H1 x1 k1 it D hD => ?_) (fun _ _ z => z) q⟩
  have en1 := en.mono x1
  obtain ⟨k1', x1'⟩ := k1.allocX (o := .lst []) hD
  have nI : w1.I D = none := k1.freeI hD
  have nA : D ∉ w1.as := k1.freeAs hD
  refine lc_it it (fun i Hc => ∃ w2 S2 acc vs, Ext w1 H1 w2 Hc ∧ Wok G w2 S2 Hc ∧ Hc D = some (.lst vs) ∧ w2.I D = none ∧ D ∉ w2.as ∧ Reps G w2.I vs acc ∧ lcRun T mt me (wipeR ρ own) (ds.drop i) acc S2 (fun ps S2 => Qv G w H Q (.p (.lst ps)) S2)) ?_ ?_ ?_ ?_
  · exact ⟨w1, S1, [], [], x1', k1', upd_same, nI, nA, Reps.nil, by simpa using q1⟩
  · rintro i Hc _ ⟨w2, S2, acc, vs, x2, k2, _⟩
    exact x2.I.trans k2.sub
  · rintro i x Hc Hd hi' ⟨w2, S2, acc, vs, x2, k2, hDc, nI2, nA2, rs, run⟩ ⟨d, hd, y⟩
    have hds : ds.drop i = d :: ds.drop (i + 1) := by
      rw [List.drop_eq_getElem_cons hi']
      congr 1
      rw [List.getElem?_eq_getElem hi'] at hd
      exact Option.some.inj hd
    rw [hds] at run
    unfold lcRun at run
    -- the world behind the item
    have big : ∃ w3, Ext w1 H1 w3 Hd ∧ Wok G w3 S2 Hd ∧ Hd D = some (.lst vs) ∧ w3.I D = none ∧ D ∉ w3.as ∧ Reps G w3.I vs acc ∧ RepD G w3 x d := by
      rcases y with ⟨e, y⟩ | ⟨Tn, xs, ps, e1, e2, e3, e4, rp⟩
      · subst e
        exact ⟨w2, x2, k2, hDc, nI2, nA2, rs, y w2 x2.I⟩
      · subst e1; subst e2; subst e4
        obtain ⟨k3, x3⟩ := k2.alloc (o := .tup xs) e3
        have nD : D ≠ Tn := ne_of_none hDc e3
        refine ⟨_, x2.trans x3, k3, by rw [upd_ne nD]; exact hDc, ?_, nA2, rs.mono x3.I, rep_tup.mpr ⟨Tn, xs, rfl, SqT.of upd_same, rp.mono (x2.I.trans x3.I)⟩⟩
        show upd w2.I Tn _ D = none
        rw [upd_ne nD]; exact nI2
    obtain ⟨w3, x3, k3, hD3, nI3, nA3, rs3, rx⟩ := big
    split at run
    · exact run.elim
    · rename_i r hb
      refine gT_ok hK.symm k3 rx ((en1.mono x3).wipe own) hb fun σ2 en2 hw => ⟨?_, ?_⟩
      · rw [hw own hT]
        have : ∀ us : List Nat, wipe (wipe σ us) us = wipe σ us := by
          intro us
          have g : ∀ vs : List Nat, (∀ v ∈ vs, v ∈ us) → ∀ τ : L2.St, wipe τ us = wipe σ us → wipe (wipe τ vs) us = wipe σ us := by
            intro vs
            induction vs with
            | nil => intro _ τ h; exact h
            | cons v vs ih =>
              intro hv τ h
              have := ih (fun u hu => hv u (List.mem_cons_of_mem _ hu)) τ h
              show wipe ((wipe τ vs).set v none) us = _
              rw [wipe_set (hv v List.mem_cons_self)]
              exact this
          exact g us (fun _ h => h) σ rfl
        exact this own
      · refine ⟨w3, S2, r, k3, en2, ht r S2 _ _ _ _ (fun b S3 q3 w4 H4 x4 k4 => ?_) (fun _ _ z => z.elim) run⟩
        have hD4 := x4.frame D _ hD3 nA3
        obtain ⟨nA4, nI4⟩ := x4.fresh D _ hD3 nA3
        have nI4 := nI4 nI3
        split at q3
        · rename_i hb'
          subst hb'
          refine iteT ?_
          refine ⟨w4, S3, r, k4, en2.mono x4, he r S3 _ _ _ _ (fun x5 S5 q5 v w5 H5 x5' k5 r5 => ?_) (fun _ _ z => z.elim) q3⟩
          have hD5 := x5'.frame D _ hD4 nA4
          obtain ⟨nA5, nI5⟩ := x5'.fresh D _ hD4 nA4
          have nI5 := nI5 nI4
          split at q5
          · rename_i p
            have rs5 := (rs3.mono x4.I).mono x5'.I
            refine ⟨vs, hD5, by rw [rs5.length]; exact q5.1, w5, S5, acc ++ [p], vs ++ [v], ((x3.trans x4).trans x5').touch hD, k5.touch nI5 nA5, upd_same, nI5, nA5, rs5.append (Reps.cons r5 Reps.nil), q5.2⟩
          · exact q5.elim
        · rename_i hb'
          have hb' : b = false := by simpa using hb'
          subst hb'
          refine iteF ?_
          exact ⟨w4, S3, acc, vs, x3.trans x4, k4, hD4, nI4, nA4, rs3.mono x4.I, q3⟩
  · rintro Hc ⟨w2, S2, acc, vs, x2, k2, hDc, nI2, nA2, rs, run⟩
    rw [List.drop_length] at run
    have run : Qv G w H Q (.p (.lst acc)) S2 := run
    have nD0 : H D = none := by
      cases z : H D with
      | none => rfl
      | some o =>
        obtain ⟨o', z'⟩ := x1.there D o z
        rw [hD] at z'; cases z'
    refine run (.ref D) _ Hc ((x1.trans x2).take nD0 nI2) (k2.take hDc nI2 nA2) (rep_lst.mpr ⟨D, vs, rfl, upd_same, rs.mono (Same.upd _ nI2)⟩)
theorem re_lc {elt tg iter : Expr} {ifs : List Expr} {scope : Scope} {own : List (Str × Nat)} {pos : Pos} {mi : WA} {T : Tgt} {mt : WT} {me : WE} (hK : X.K = G.K) (hc : X.calm = true) (hN : X.N.Nodup) (hi : RI G X W tg iter mi) (ok : BlkOk X.N X.env.scope scope own) (hT : ∀ i ∈ T.slots, i ∈ own.map (·.2))
    (hg : ∀ (s : Shared) (H : Hp) (C : Addr) (cl : List (Str × Addr)) (fp : List Addr), PG (X.blk s H scope (compEnvC scope cl C X.env) fp) tg (gT X.K T)) (ht : ∀ (s : Shared) (H : Hp) (C : Addr) (cl : List (Str × Addr)) (fp : List Addr), RTs G (X.blk s H scope (compEnvC scope cl C X.env) fp) WF ifs mt)
    (he : ∀ (s : Shared) (H : Hp) (C : Addr) (cl : List (Str × Addr)) (fp : List Addr), RE G (X.blk s H scope (compEnvC scope cl C X.env) fp) WF elt me) (hs : ∀ x, foldedSetIterable iter X.env x = pure x := by intro _; rfl) :
    RE G X W (.ListComp elt [⟨tg, iter, ifs, 0⟩] scope pos) (wLC mi T mt me (own.map (·.2))) :=
  ⟨PE.imp (pe_lc hc hN hi.pi ok hg (fun s H C cl fp => (ht s H C cl fp).pts) (fun s H C cl fp => (he s H C cl fp).pe) hs) fun σ H Q h => lc_in hK hi.mono (ht X.s_0 X.H_0 0 [] []).mono (he X.s_0 X.H_0 0 [] []).mono hT h, mon_lc hi.mono (ht X.s_0 X.H_0 0 [] []).mono (he X.s_0 X.H_0 0 [] []).mono⟩
end
end RB
/-! The lifted layer: statements. -/
namespace RB
open PySem PySem.Spec PyProof.Rows L2

/-- what is wanted behind a statement -/
structure DE where
  nx : Rho → Store → Prop
  rt : DK
  bk : Rho → Store → Prop
  ct : Rho → Store → Prop
  xc : Rho → EK
abbrev WS := DE → Rho → Store → Prop
def Sn (G : Glob) (w : Wd) (H : Hp) (N : L2.St → Hp → Prop) : Rho → Store → Prop := fun r S => ∀ σ w' H', Ext w H w' H' → Wok G w' S H' → EnvOk G w' σ r → N σ H'
def Sx (G : Glob) (w : Wd) (H : Hp) (W : WX) : Rho → EK := fun r x S => ∀ σ cls dd w' H', Ext w H w' H' → Wok G w' S H' → EnvOk G w' σ r → RepX G w' cls dd x → W cls dd σ H'
def lowE (G : Glob) (w : Wd) (H : Hp) (W : WX) (D : Ends) : DE := ⟨Sn G w H D.nx, Qv G w H D.rt, Sn G w H D.bk, Sn G w H D.ct, Sx G w H W⟩
def tMs (G : Glob) (W : WX) (m : WS) : TS := fun D σ H => ∃ w S r, Wok G w S H ∧ EnvOk G w σ r ∧ m (lowE G w H W D) r S
structure DE.le (D D' : DE) : Prop where
  nx : ∀ r S, D.nx r S → D'.nx r S
  rt : ∀ d S, D.rt d S → D'.rt d S
  bk : ∀ r S, D.bk r S → D'.bk r S
  ct : ∀ r S, D.ct r S → D'.ct r S
  xc : ∀ r x S, D.xc r x S → D'.xc r x S
def MonS (m : WS) : Prop := ∀ D D' r S, DE.le D D' → m D r S → m D' r S
structure RS (G : Glob) (X : Cx) (W : WX) (st : Stmt) (m : WS) : Prop where
  ps : PS X st (tMs G W m)
  mono : MonS m
structure RSs (G : Glob) (X : Cx) (W : WX) (st : List Stmt) (m : WS) : Prop where
  ps : PSs X st (tMs G W m)
  mono : MonS m
theorem PS.imp {X : Cx} {e : Stmt} {t u : TS} (h : PS X e t) (i : ∀ D σ H, u D σ H → t D σ H) : PS X e u := ⟨fun pins s σ H D I q => h.run pins s σ H D I (i D σ H q)⟩
theorem PSs.imp {X : Cx} {e : List Stmt} {t u : TS} (h : PSs X e t) (i : ∀ D σ H, u D σ H → t D σ H) : PSs X e u := ⟨fun pins s σ H D I q => h.run pins s σ H D I (i D σ H q)⟩
section
variable {G : Glob} {X : Cx} {W : WX} {e a b c : Expr} {pos : Pos} {st : Stmt} {rest : List Stmt}
theorem Sn.ext {w w1 : Wd} {H H1 : Hp} {N : L2.St → Hp → Prop} (x : Ext w H w1 H1) {r : Rho} {S : Store} (q : Sn G w H N r S) : Sn G w1 H1 N r S := fun σ w' H' y k en => q σ w' H' (x.trans y) k en
theorem Sx.ext {w w1 : Wd} {H H1 : Hp} (x : Ext w H w1 H1) {r : Rho} {y : Exc} {S : Store} (q : Sx G w H W r y S) : Sx G w1 H1 W r y S := fun σ c d w' H' z k en rx => q σ c d w' H' (x.trans z) k en rx
theorem lowE.ext {w w1 : Wd} {H H1 : Hp} {D : Ends} (x : Ext w H w1 H1) : DE.le (lowE G w H W D) (lowE G w1 H1 W D) := ⟨fun _ _ q => q.ext x, fun _ _ q => q.ext x, fun _ _ q => q.ext x, fun _ _ q => q.ext x, fun _ _ _ q => q.ext x⟩
theorem Sx.at_ {w : Wd} {H : Hp} {σ : L2.St} {r : Rho} (en : EnvOk G w σ r) {y : Exc} {S : Store} (q : Sx G w H W r y S) : Qx G w H (fun c d H' => W c d σ H') y S := fun c d w' H' x k rx => q σ c d w' H' x k (en.mono x) rx
/-- an expression's part of a statement -/
theorem tM.low {m : WE} (hm : Mon m) {σ : L2.St} {H : Hp} {w : Wd} {S : Store} {r : Rho} {k : DK} {Q : VK} (ok : Wok G w S H) (en : EnvOk G w σ r) (h : m r S k (Sx G w H W r))
    (hk : ∀ d S' v w' H', Ext w H w' H' → Wok G w' S' H' → RepD G w' v d → k d S' → Q v H') : tM G W m σ H Q :=
  tM.bind hm ok en (hm r S _ _ _ _ (fun _ _ q => q) (fun x S' q => q.at_ en) h) (fun _ _ _ z => z) hk
theorem tMt.low {m : WT} (hm : MonT m) {σ : L2.St} {H : Hp} {w : Wd} {S : Store} {r : Rho} {k : Bool → Store → Prop} {Q : Bool → Hp → Prop} (ok : Wok G w S H) (en : EnvOk G w σ r) (h : m r S k (Sx G w H W r))
    (hk : ∀ b S' w' H', Ext w H w' H' → Wok G w' S' H' → k b S' → Q b H') : tMt G W m σ H Q :=
  tMt.bind hm ok en (hm r S _ _ _ _ (fun _ _ q => q) (fun x S' q => q.at_ en) h) (fun _ _ _ z => z) hk

/-! ### blocks -/
def wNext : WS := fun D r S => D.nx r S
def wSeq (m1 m2 : WS) : WS := fun D r S => m1 { D with nx := m2 D } r S
theorem rss_nil : RSs G X W [] wNext := ⟨PSs.imp pss_nil fun D σ H ⟨w, S, ρ, ok, en, q⟩ => q σ w H (Ext.refl w H) ok en, fun _ _ _ _ l h => l.nx _ _ h⟩
theorem rss_cons {m1 m2 : WS} (h1 : RS G X W st m1) (h2 : RSs G X W rest m2) : RSs G X W (st :: rest) (wSeq m1 m2) := by
  refine ⟨PSs.imp (pss_cons h1.ps h2.ps) fun D σ H ⟨w, S, ρ, ok, en, q⟩ => ?_, fun D D' r S l h => h1.mono { D with nx := m2 D } { D' with nx := m2 D' } r S ⟨fun r' S' q => h2.mono D D' r' S' l q, l.rt, l.bk, l.ct, l.xc⟩ h⟩
  refine ⟨w, S, ρ, ok, en, h1.mono { lowE G w H W D with nx := m2 (lowE G w H W D) } _ _ _ ⟨fun r' S' q σ' w' H' x k en' => ?_, fun _ _ q => q, fun _ _ q => q, fun _ _ q => q, fun _ _ _ q => q⟩ q⟩
  exact ⟨w', S', r', k, en', h2.mono _ _ _ _ (lowE.ext x) q⟩
theorem rss_one {m : WS} (h : RS G X W st m) : RSs G X W [st] m := ⟨pss_one h.ps, h.mono⟩
def wBreak : WS := fun D r S => D.bk r S
def wCont : WS := fun D r S => D.ct r S
theorem rs_pass : RS G X W (.Pass pos) wNext := ⟨PS.imp ps_pass fun D σ H ⟨w, S, ρ, ok, en, q⟩ => q σ w H (Ext.refl w H) ok en, fun _ _ _ _ l h => l.nx _ _ h⟩
theorem rs_break : RS G X W (.Break pos) wBreak := ⟨PS.imp ps_break fun D σ H ⟨w, S, ρ, ok, en, q⟩ => q σ w H (Ext.refl w H) ok en, fun _ _ _ _ l h => l.bk _ _ h⟩
theorem rs_cont : RS G X W (.Continue pos) wCont := ⟨PS.imp ps_continue fun D σ H ⟨w, S, ρ, ok, en, q⟩ => q σ w H (Ext.refl w H) ok en, fun _ _ _ _ l h => l.ct _ _ h⟩
def wRet (m : WE) : WS := fun D r S => m r S D.rt (D.xc r)
theorem rs_ret {m : WE} (h : RE G X W e m) : RS G X W (.Return (some e) pos) (wRet m) :=
  ⟨PS.imp (ps_ret h.pe) fun D σ H ⟨w, S, ρ, ok, en, q⟩ => tM.low h.mono ok en q fun d S' v w' H' x k r q => q v w' H' x k r, fun D D' r S l q => h.mono _ _ _ _ _ _ l.rt (l.xc r) q⟩
def wRetN : WS := fun D _ S => D.rt (.p .non) S
theorem rs_retN : RS G X W (.Return none pos) wRetN := ⟨PS.imp ps_retN fun D σ H ⟨w, S, ρ, ok, en, q⟩ => q _ w H (Ext.refl w H) ok (rep_non.mpr rfl), fun _ _ _ _ l h => l.rt _ _ h⟩
def wDrop (m : WE) : WS := fun D r S => m r S (fun _ S1 => D.nx r S1) (D.xc r)
theorem rs_expr {m : WE} (h : RE G X W e m) (hs : swapsWith e none pos.line X.env = pure false := by rfl) : RS G X W (.Expr e pos) (wDrop m) :=
  ⟨PS.imp (ps_expr h.pe hs) fun D σ H ⟨w, S, ρ, ok, en, q⟩ => tM.low h.mono ok en q fun d S' v w' H' x k r q => q σ w' H' x k (en.mono x), fun D D' r S l q => h.mono _ _ _ _ _ _ (fun _ _ q => l.nx _ _ q) (l.xc r) q⟩
def wSet (i : Nat) (m : WE) : WS := fun D r S => m r S (fun d S1 => D.nx (r.set i (some d)) S1) (D.xc r)
theorem mon_set {i : Nat} {m : WE} (h : Mon m) : MonS (wSet i m) := fun D D' r S l q => h _ _ _ _ _ _ (fun _ _ q => l.nx _ _ q) (l.xc r) q
theorem rs_set {i : Nat} {x : Str} {pos' : Pos} {m : WE} (hN : X.N.Nodup) (hi : X.N[i]? = some x) (hx : Loc X.env.scope x) (h : RE G X W e m) (hs : swapsWith e (some (.Name x pos')) pos.line X.env = pure false := by rfl) (hf : X.fn x = true ∨ X.env.scope.names.lookup x = some .local := by first | exact .inl rfl | exact .inr rfl | assumption) :
    RS G X W (.Assign [.Name x pos'] e pos) (wSet i m) :=
  ⟨PS.imp (ps_set hN hi hx h.pe hs hf) fun D σ H ⟨w, S, ρ, ok, en, q⟩ => tM.low h.mono ok en q fun d S' v w' H' x k r q => q _ w' H' x k ((en.mono x).set r i), mon_set h.mono⟩
theorem rs_setLc {i : Nat} {y : Str} {py spos : Pos} {elt tg iter : Expr} {ifs : List Expr} {scope : Scope} {own : List (Str × Nat)} {pos : Pos} {mi : WA} {T : Tgt} {mt : WT} {me : WE} (hK : X.K = G.K) (hc : X.calm = true) (hN : X.N.Nodup) (hy : X.N[i]? = some y) (hyl : X.env.scope.names.lookup y = some .local)
    (hsw : swapsWith (.ListComp elt [⟨tg, iter, ifs, 0⟩] scope pos) (some (.Name y py)) spos.line X.env = pure true) (hi : RI G X W tg iter mi) (ok : BlkOk X.N X.env.scope scope own) (hT : ∀ i ∈ T.slots, i ∈ own.map (·.2))
    (hg : ∀ (s : Shared) (H : Hp) (C : Addr) (cl : List (Str × Addr)) (fp : List Addr), PG (X.blk s H scope (compEnvC scope cl C X.env) fp) tg (gT X.K T)) (ht : ∀ (s : Shared) (H : Hp) (C : Addr) (cl : List (Str × Addr)) (fp : List Addr), RTs G (X.blk s H scope (compEnvC scope cl C X.env) fp) WF ifs mt)
    (he : ∀ (s : Shared) (H : Hp) (C : Addr) (cl : List (Str × Addr)) (fp : List Addr), RE G (X.blk s H scope (compEnvC scope cl C X.env) fp) WF elt me) (hs : ∀ x, foldedSetIterable iter X.env x = pure x := by intro _; rfl) :
    RS G X W (.Assign [.Name y py] (.ListComp elt [⟨tg, iter, ifs, 0⟩] scope pos) spos) (wSet i (wLC mi T mt me (own.map (·.2)))) :=
  ⟨PS.imp (ps_setLc hc hN hy hyl hsw hi.pi ok hg (fun s H C cl fp => (ht s H C cl fp).pts) (fun s H C cl fp => (he s H C cl fp).pe) hs) fun D σ H ⟨w, S, ρ, ok, en, q⟩ =>
    lc_in hK hi.mono (ht X.s_0 X.H_0 0 [] []).mono (he X.s_0 X.H_0 0 [] []).mono hT (tM.low (mon_lc hi.mono (ht X.s_0 X.H_0 0 [] []).mono (he X.s_0 X.H_0 0 [] []).mono) ok en q fun d S' v w' H' x k r q => q _ w' H' x k ((en.mono x).set r i)),
    mon_set (mon_lc hi.mono (ht X.s_0 X.H_0 0 [] []).mono (he X.s_0 X.H_0 0 [] []).mono)⟩
def wIfS (t : WT) (m1 m2 : WS) : WS := fun D r S => t r S (fun b S1 => if b = true then m1 D r S1 else m2 D r S1) (D.xc r)
theorem rs_if {t : WT} {m1 m2 : WS} {bd el : List Stmt} (hc : RT G X W c t) (h1 : RSs G X W bd m1) (h2 : RSs G X W el m2) : RS G X W (.If c bd el pos) (wIfS t m1 m2) := by
  refine ⟨PS.imp (ps_if hc.pe h1.ps h2.ps) fun D σ H ⟨w, S, ρ, ok, en, q⟩ => ?_, fun D D' r S l q => hc.mono _ _ _ _ _ _ (fun b S1 q => ?_) (l.xc r) q⟩
  · refine tMt.low hc.mono ok en q fun b S' w' H' x k q => ?_
    cases b with
    | true => exact iteT ⟨w', S', ρ, k, en.mono x, h1.mono _ _ _ _ (lowE.ext x) (by simpa using q)⟩
    | false => exact iteF ⟨w', S', ρ, k, en.mono x, h2.mono _ _ _ _ (lowE.ext x) (by simpa using q)⟩
  · cases b with
    | true => exact iteT (h1.mono _ _ _ _ l (by simpa using q))
    | false => exact iteF (h2.mono _ _ _ _ l (by simpa using q))
/-! ### for -/
def forRun (T : Tgt) (mb : WS) (D : DE) : List RB.D → Rho → Store → Prop
  | [], r, S => D.nx r S
  | d :: ds, r, S => match bindT T d r with
    | none => False
    | some r' => mb { D with nx := fun r S => forRun T mb D ds r S, ct := fun r S => forRun T mb D ds r S, bk := D.nx } r' S
theorem forRun_mono {T : Tgt} {mb : WS} (hb : MonS mb) {D D' : DE} (l : DE.le D D') : ∀ {ds : List RB.D} {r : Rho} {S : Store}, forRun T mb D ds r S → forRun T mb D' ds r S
  | [], _, _, h => l.nx _ _ h
  | d :: ds, r, S, h => by
    unfold forRun at h ⊢
    split at h
    · exact h.elim
    · exact hb { D with nx := fun r S => forRun T mb D ds r S, ct := fun r S => forRun T mb D ds r S, bk := D.nx } _ _ _ ⟨fun r S q => forRun_mono hb l q, l.rt, l.nx, fun r S q => forRun_mono hb l q, l.xc⟩ h
def wFor (mi : WA) (T : Tgt) (mb : WS) : WS := fun D r S => mi r S (fun ds S1 => forRun T mb D ds r S1) (D.xc r)
theorem rs_for {tg iter : Expr} {body : List Stmt} {mi : WA} {T : Tgt} {mb : WS} (hK : X.K = G.K) (hp : PassesOwn (model X.prog X.w) X.A X.env X.xe) (hc : X.calm = true) (hi : RI G X W tg iter mi) (hg : PG X tg (gT X.K T)) (hb : RSs G X W body mb)
    (hs : ∀ x, foldedSetIterable iter X.env x = pure x := by intro _; rfl) : RS G X W (.For tg iter body [] pos) (wFor mi T mb) := by
  refine ⟨PS.imp (ps_for hp hc hi.pi hg hb.ps hs) fun D σ H ⟨w, S, ρ, ok, en, q⟩ => ?_, fun D D' r S l q => hi.mono _ _ _ _ _ _ (fun ds S1 q => forRun_mono hb.mono l q) (l.xc r) q⟩
  refine ⟨w, S, ρ, ok, en, hi.mono ρ S _ _ _ _ (fun ds S1 q1 J w1 H1 x1 k1 it => ?_) (fun y S' q => q.at_ en) q⟩
  have q1 : forRun T mb (lowE G w1 H1 W D) ds ρ S1 := forRun_mono hb.mono (lowE.ext x1) q1
  refine for_it it (fun i τ Hc => ∃ w2 S2 r, Ext w1 H1 w2 Hc ∧ Wok G w2 S2 Hc ∧ EnvOk G w2 τ r ∧ forRun T mb (lowE G w1 H1 W D) (ds.drop i) r S2) ?_ ?_ ?_ ?_
  · exact ⟨w1, S1, ρ, Ext.refl _ _, k1, en.mono x1, by simpa using q1⟩
  · rintro i τ Hc _ ⟨w2, S2, r, x2, k2, _⟩
    exact x2.I.trans k2.sub
  · rintro i x τ Hc Hd hi' ⟨w2, S2, r, x2, k2, en2, run⟩ ⟨d, hd, y⟩
    have hds : ds.drop i = d :: ds.drop (i + 1) := by
      rw [List.drop_eq_getElem_cons hi']
      congr 1
      rw [List.getElem?_eq_getElem hi'] at hd
      exact Option.some.inj hd
    rw [hds] at run
    unfold forRun at run
    have big : ∃ w3, Ext w1 H1 w3 Hd ∧ Wok G w3 S2 Hd ∧ EnvOk G w3 τ r ∧ RepD G w3 x d := by
      rcases y with ⟨e, y⟩ | ⟨Tn, xs, ps, e1, e2, e3, e4, rp⟩
      · subst e
        exact ⟨w2, x2, k2, en2, y w2 x2.I⟩
      · subst e1; subst e2; subst e4
        obtain ⟨k3, x3⟩ := k2.alloc (o := .tup xs) e3
        exact ⟨_, x2.trans x3, k3, en2.mono x3, rep_tup.mpr ⟨Tn, xs, rfl, SqT.of upd_same, rp.mono (x2.I.trans x3.I)⟩⟩
    obtain ⟨w3, x3, k3, en3, rx⟩ := big
    split at run
    · exact run.elim
    · rename_i r' hb'
      refine gT_ok hK.symm k3 rx en3 hb' fun σ2 en4 _ => ⟨w3, S2, r', k3, en4, hb.mono _ _ _ _ ?_ run⟩
      exact ⟨fun r S q τ w4 H4 x4 k4 en5 => ⟨w4, S, r, x3.trans x4, k4, en5, q⟩, fun d S q => q.ext x3, fun r S q => Sn.ext x3 q, fun r S q τ w4 H4 x4 k4 en5 => ⟨w4, S, r, x3.trans x4, k4, en5, q⟩, fun r y S q => q.ext x3⟩
  · rintro τ Hc ⟨w2, S2, r, x2, k2, en2, run⟩
    rw [List.drop_length] at run
    exact run τ w2 Hc x2 k2 en2
/-! ### while -/
def wWhile (t : WT) (mb : WS) : WS := fun D r S => ∃ N : Nat → Rho → Store → Prop, (∃ m, N m r S) ∧ ∀ m r S, N m r S → t r S (fun b S1 => if b = true then mb { D with nx := fun r' S' => ∃ m', m' < m ∧ N m' r' S', ct := fun r' S' => ∃ m', m' < m ∧ N m' r' S', bk := D.nx } r S1 else D.nx r S1) (D.xc r)
theorem rs_while {t : WT} {mb : WS} {body : List Stmt} (hp : PassesOwn (model X.prog X.w) X.A X.env X.xe) (hc : RT G X W c t) (hb : RSs G X W body mb) : RS G X W (.While c body [] pos) (wWhile t mb) := by
  refine ⟨PS.imp (ps_while hp hc.pe hb.ps) fun D σ H ⟨w, S, ρ, ok, en, N, ⟨m0, n0⟩, step⟩ => ?_, fun D D' r S l ⟨N, h0, step⟩ => ⟨N, h0, fun m r S h => hc.mono _ _ _ _ _ _ (fun b S1 q => ?_) (l.xc r) (step m r S h)⟩⟩
  · refine ⟨fun m τ Hc => ∃ w2 S2 r, Ext w H w2 Hc ∧ Wok G w2 S2 Hc ∧ EnvOk G w2 τ r ∧ N m r S2, ⟨m0, w, S, ρ, Ext.refl _ _, ok, en, n0⟩, ?_⟩
    rintro m τ Hc ⟨w2, S2, r, x2, k2, en2, n2⟩
    have st := hc.mono r S2 _ _ _ _ (fun b S1 q => q) (fun y S' q => Sx.ext x2 q) (step m r S2 n2)
    refine tMt.low hc.mono k2 en2 st fun b S' w' H' x k q => ?_
    cases b with
    | true =>
      refine iteT ⟨fun τ' H'' => ∃ m', m' < m ∧ ∃ w2 S2 r, Ext w H w2 H'' ∧ Wok G w2 S2 H'' ∧ EnvOk G w2 τ' r ∧ N m' r S2, fun τ' H'' h => h, w', S', r, k, en2.mono x, hb.mono _ _ _ _ ?_ (by simpa using q)⟩
      have xx := x2.trans x
      exact ⟨fun r S ⟨m', hm, n⟩ τ w4 H4 x4 k4 en5 => ⟨m', hm, w4, S, r, xx.trans x4, k4, en5, n⟩, fun d S q => Qv.ext xx q, fun r S q => Sn.ext xx q, fun r S ⟨m', hm, n⟩ τ w4 H4 x4 k4 en5 => ⟨m', hm, w4, S, r, xx.trans x4, k4, en5, n⟩, fun r y S q => Sx.ext xx q⟩
    | false => exact iteF ((show (lowE G w H W D).nx r S' by simpa using q) τ w' H' (x2.trans x) k (en2.mono x))
  · cases b with
    | true => exact iteT (hb.mono { D with nx := fun r' S' => ∃ m', m' < m ∧ N m' r' S', ct := fun r' S' => ∃ m', m' < m ∧ N m' r' S', bk := D.nx } _ _ _ ⟨fun _ _ q => q, l.rt, l.nx, fun _ _ q => q, l.xc⟩ (by simpa using q))
    | false => exact iteF (l.nx _ _ (by simpa using q))
end
end RB
/-! The lifted layer: defs and their calls. -/
namespace RB
open PySem PySem.Spec PyProof.Rows L2

/-- a def's promise over data -/
abbrev DSp := List D → Store → DK → EK → Prop
def DMon (sp : DSp) : Prop := ∀ ds S Q Q' E E', (∀ d S, Q d S → Q' d S) → (∀ x S, E x S → E' x S) → sp ds S Q E → sp ds S Q' E'
def spV (G : Glob) (sp : DSp) : Sp := fun vs H Q E => ∃ w S ds, Wok G w S H ∧ RepDs G w vs ds ∧ sp ds S (Qv G w H Q) (Qx G w H E)
/-- the def at f keeps the promise sp, by at most level k, where no repr runs -/
structure FnG (G : Glob) (P : Program) (w : World) (mg : Str → Option Value) (base : Heap) (k : Nat) (f : Addr) (fd : FuncData) (ps : List Str) (sp : DSp) : Prop where
  mono : DMon sp
  len : ∀ ds S Q E, sp ds S Q E → ds.length = ps.length
  run : ∀ (A : Around) (outer : List Env) (s : Shared) (H : Hp) (args : Args) (us : List Value) (vs : List V) (Q : VK) (E : XK), Room k A → A.guards = some [] → Env0 P w G.K mg base A outer s H → BindsTo s fd args (ps.zip us) → Vals vs us → spV G sp vs H Q E →
    codeAny (model P w) A (.call (.ref f) args) (CR (L2.CX P w) outer P w H s Q E) s
theorem FnG.up {G : Glob} {P : Program} {w : World} {mg : Str → Option Value} {base : Heap} {j k : Nat} {f : Addr} {fd : FuncData} {ps : List Str} {sp : DSp} (F : FnG G P w mg base j f fd ps sp) (h : j ≤ k) : FnG G P w mg base k f fd ps sp :=
  ⟨F.mono, F.len, fun A outer s H args us vs Q E hr => F.run A outer s H args us vs Q E (hr.mono h)⟩
theorem FnG.imp {G : Glob} {P : Program} {w : World} {mg : Str → Option Value} {base : Heap} {k : Nat} {f : Addr} {fd : FuncData} {ps : List Str} {sp sp' : DSp} (F : FnG G P w mg base k f fd ps sp) (m : DMon sp') (h : ∀ ds S Q E, sp' ds S Q E → sp ds S Q E) : FnG G P w mg base k f fd ps sp' :=
  ⟨m, fun ds S Q E q => F.len ds S Q E (h _ _ _ _ q), fun A outer s H args us vs Q E hr hg e0 hb hv ⟨w, S, ds, k, r, q⟩ => F.run A outer s H args us vs Q E hr hg e0 hb hv ⟨w, S, ds, k, r, h _ _ _ _ q⟩⟩
theorem RepDs.length {G : Glob} {w : Wd} : ∀ {vs : List V} {ds : List D}, RepDs G w vs ds → vs.length = ds.length
  | [], [], _ => rfl
  | _ :: _, _ :: _, ⟨_, t⟩ => by simp [RepDs.length t]
  | [], _ :: _, h => h.elim
  | _ :: _, [], h => h.elim
theorem RepDs.append {G : Glob} {w : Wd} : ∀ {vs us : List V} {ds es : List D}, RepDs G w vs ds → RepDs G w us es → RepDs G w (vs ++ us) (ds ++ es)
  | [], _, [], _, _, t => t
  | _ :: _, _, _ :: _, _, ⟨h, r⟩, t => ⟨h, RepDs.append r t⟩
  | [], _, _ :: _, _, h, _ => h.elim
  | _ :: _, _, [], _, h, _ => h.elim
theorem RepDs.get {G : Glob} {w : Wd} : ∀ {vs : List V} {ds : List D} {i : Nat} {d : D}, RepDs G w vs ds → ds[i]? = some d → ∃ v, vs[i]? = some v ∧ RepD G w v d
  | [], [], _, _, _, e => by simp at e
  | v :: vs, d' :: ds, 0, _, ⟨h, _⟩, e => by simp at e; subst e; exact ⟨v, rfl, h⟩
  | v :: vs, d' :: ds, i + 1, _, ⟨_, t⟩, e => by simpa using RepDs.get t (by simpa using e)
  | [], _ :: _, _, _, h, _ => h.elim
  | _ :: _, [], _, _, h, _ => h.elim

/-! ### a def's body -/
def startR (N : List Str) (ds : List D) : Rho := ds.map some ++ List.replicate (N.length - ds.length) none
def cutD (n : Nat) (d : D) (S : Store) : Store := match d with
  | .p _ => S.take n
  | .cell m => if m < n then S.take n else S
def endsF (n : Nat) (Q : DK) (E : EK) : DE := ⟨fun _ S => Q (.p .non) (S.take n), fun d S => Q d (cutD n d S), fun _ _ => False, fun _ _ => False, fun _ x S => E x (S.take n)⟩
theorem start_ok {G : Glob} {w : Wd} {N : List Str} {vs : List V} {ds : List D} (r : RepDs G w vs ds) : EnvOk G w (L2.start N vs) (startR N ds) := by
  have l := r.length
  refine ⟨by simp [L2.start, startR, l], fun i d h => ?_⟩
  unfold startR at h
  by_cases hi : i < ds.length
  · rw [List.getElem?_append_left (by simpa using hi), List.getElem?_map] at h
    cases e : ds[i]? with
    | none => rw [e] at h; cases h
    | some d' =>
      rw [e] at h
      cases h
      obtain ⟨v, h1, h2⟩ := r.get e
      refine ⟨v, ?_, h2⟩
      unfold L2.start
      rw [List.getElem?_append_left (by rw [List.length_map, l]; exact hi), List.getElem?_map, h1]
      rfl
  · rw [List.getElem?_append_right (by simpa using hi), List.getElem?_replicate] at h
    split at h <;> cases h
theorem Wok.cut {G : Glob} {w w' : Wd} {S S' : Store} {H H' : Hp} (k : Wok G w S H) (x : Ext w H w' H') (k' : Wok G w' S' H') : Wok G ⟨w'.I, w.as⟩ (S'.take S.length) H' ∧ Ext w H ⟨w'.I, w.as⟩ H' := by
  obtain ⟨t, ht⟩ := x.as
  have l := k.len
  have l' := k'.len
  rw [ht, List.length_append] at l'
  refine ⟨⟨k'.sub, ?_, k.nd, fun n c a h1 h2 => ?_⟩, ⟨x.I, ⟨[], by simp⟩, x.frame, fun b o h n => ⟨n, (x.fresh b o h n).2⟩, x.there⟩⟩
  · show w.as.length = _
    rw [List.length_take]
    omega
  · have h2 : w.as[n]? = some a := h2
    have hn : n < w.as.length := (List.getElem?_eq_some_iff.mp h2).1
    rw [List.getElem?_take_of_lt (by omega)] at h1
    exact k'.cells n c a h1 (by rw [ht, List.getElem?_append_left hn]; exact h2)
theorem cut_ret {G : Glob} {w : Wd} {S : Store} {H : Hp} {Q : VK} (k : Wok G w S H) {d : D} {S' : Store} (q : Qv G w H Q d (cutD S.length d S')) : Qv G w H Q d S' := fun v w' H' x k' r => by
  obtain ⟨k2, x2⟩ := k.cut x k'
  cases d with
  | p d => exact q v _ H' x2 k2 r
  | cell m =>
    simp only [cutD] at q
    split at q
    · rename_i hm
      obtain ⟨a, e, z⟩ := r
      refine q v _ H' x2 k2 ⟨a, e, ?_⟩
      obtain ⟨t, ht⟩ := x.as
      rw [ht, List.getElem?_append_left (by rw [k.len]; exact hm)] at z
      exact z
    · exact q v w' H' x k' r
theorem cut_exc {G : Glob} {w : Wd} {S : Store} {H : Hp} {E : XK} (k : Wok G w S H) {y : Exc} {S' : Store} (q : Qx G w H E y (S'.take S.length)) : Qx G w H E y S' := fun c d w' H' x k' r => by
  obtain ⟨k2, x2⟩ := k.cut x k'
  exact q c d _ H' x2 k2 r

/-- the context in which a body runs -/
structure CxG (G : Glob) (X : Cx) (W : WX) (n : Nat) : Prop where
  hK : X.K = G.K
  tk : Takes X W
  rm : Room n X.A
  gd : X.A.guards = some []
  calm : X.calm = true
theorem CxG.hu {G : Glob} {X : Cx} {W : WX} {n : Nat} (C : CxG G X W n) : X.A.units + 64 < cLine := C.rm.units
theorem CxG.h1 {G : Glob} {X : Cx} {W : WX} {n : Nat} (C : CxG G X W n) : X.A.units + 1 < cLine := hu_of C.rm
theorem CxG.blk {G : Glob} {X : Cx} {W : WX} {n : Nat} (C : CxG G X W n) (s : Shared) (H : Hp) (scope : Scope) (cenv : Env) (fp : List Addr) : CxG G (X.blk s H scope cenv fp) WF n := ⟨C.hK, takes0, C.rm, C.gd, C.calm⟩
section
variable {G : Glob} {P : Program} {w : World} {mg : Str → Option Value} {base : Heap} {x qual : Str} {params : Arguments} {body : List Stmt} {scope : Scope} {dvs : List V} {kws : List (Str × V)} {f : Addr} {fd : FuncData}
/-- the rule of a def -/
theorem fn_g {N ps : List Str} {k : Nat} {sp : DSp} {ws : WS} (F : FunD G.K x qual params body scope dvs kws f fd) (S : FnScope N ps scope) (mono : DMon sp) (len : ∀ ds S Q E, sp ds S Q E → ds.length = ps.length)
    (hbody : ∀ (cdv : Value) (A : Around) (outer : List Env) (s : Shared) (H : Hp) (E : XK), CxG G (cxOf (L2.CX P w) P w G.K mg base N qual scope f cdv A outer s H E) (fun cls d _ H' => E cls d H') k →
      RSs G (cxOf (L2.CX P w) P w G.K mg base N qual scope f cdv A outer s H E) (fun cls d _ H' => E cls d H') body ws)
    (pur : ∀ ds S Q E, sp ds S Q E → ws (endsF S.length Q E) (startR N ds) S) : FnG G P w mg base (k + 1) f fd ps sp := by
  obtain ⟨oc, od, dV, kV, doc, pm, an, cdv, ct, osl, rfl, lk, hcd, _, _⟩ := F.ex
  refine ⟨mono, len, fun A outer s H args us vs Q E hr hg e0 hb r hsp => ?_⟩
  obtain ⟨wd, St, ds, ok, rd, hsp⟩ := hsp
  have hl : vs.length = ps.length := by rw [rd.length]; exact len _ _ _ _ hsp
  have stays : ∀ b o, base.get? b = some o → s.heap.get? b = some o := fun b o e => (e0.bs b o e).1
  have KX : G.K.In s.heap := e0.mod.kin.keeps stays
  have lim : s.heap.NoLimit := e0.mod.nolimit.keeps stays
  refine codeAny_call_function hr.depth (KX _ _ lk) rfl S.co S.gen rfl (PySem.W.codeRec_of KX hcd) (hb _ _ _ _ ?_)
  refine wpAny_newFunctionEnv_cells S.kind (fun y hy => ?_) fun env he s1 x => ?_
  · rcases S.par y.1 (List.of_mem_zip (show (y.1, y.2) ∈ ps.zip us from hy)).1 with q | q
    · exact .inl q
    · exact .inr ⟨q, PySem.W.cellsFrom_some _ _ _ (.inl q)⟩
  subst he
  refine ⟨lim.keeps x.toInCall.keep, codeAny_func ?_⟩
  have C : CxG G (cxOf (L2.CX P w) P w G.K mg base N qual scope f cdv A outer s H E) (fun cls d _ H' => E cls d H') k := ⟨rfl, takes_of rfl rfl rfl rfl, hr.deeper _, hg, rfl⟩
  have B := hbody cdv A outer s H E C
  have I := inv_start (CX := L2.CX P w) (E := E) S hr.hd e0 hl r x
  have low : tMs G (fun cls d _ H' => E cls d H') ws { nx := fun _ H' => Q .non H', rt := Q } (L2.start N vs) H := by
    refine ⟨wd, St, startR N ds, ok, start_ok rd, B.mono (endsF St.length (Qv G wd H Q) (Qx G wd H E)) _ _ _ ⟨fun r S' q τ w' H' x k en => ?_, fun d S' q => cut_ret ok q, fun _ _ z => z.elim, fun _ _ z => z.elim, fun r y S' q τ c d w' H' x k en rx => ?_⟩ (pur _ _ _ _ hsp)⟩
    · obtain ⟨k2, x2⟩ := ok.cut x k
      exact q .non _ H' x2 k2 (rep_non.mpr rfl)
    · exact cut_exc ok q c d w' H' x k rx
  refine wpAny_mono (B.ps.run [] s1 (L2.start N vs) H _ I low) (fun fl s' hs => ?_) fun e s' hs => hs
  cases fl with
  | ret u =>
    obtain ⟨v, σ', H', J, rv, q⟩ := hs
    exact ⟨v, H', J.os, J.bare, J.base, J.hok, rv, q⟩
  | next =>
    obtain ⟨σ', H', J, q⟩ := hs
    exact ⟨V.non, H', J.os, J.bare, J.base, J.hok, rfl, q⟩
  | brk => exact hs.choose_spec.choose_spec.2.elim
  | cont => exact hs.choose_spec.choose_spec.2.elim
end

/-! ### calls -/
section
variable {G : Glob} {X : Cx} {W : WX} {n k : Nat} {f C : Addr} {fd : FuncData} {ps ks : List Str} {sp : DSp} {dvs : List V} {ds : List Value} {dds : List D} {x : Str} {p pos : Pos} {e : Expr} {es : List Expr} {ma mk : WA}
theorem run_g (C : CxG G X W n) (F : FnG G X.prog X.w X.mg X.base k f fd ps sp) (hk : k ≤ n) {pins : List (Addr × Obj)} {σ : L2.St} {H : Hp} {s : Shared} {Q : VK} {args : Args} {us : List Value} {vs : List V} (I : Inv X pins σ H s) (hb : BindsTo s fd args (ps.zip us)) (r : Vals vs us)
    (h : spV G sp vs H Q fun c d H' => W c d σ H') : wpAny (model X.prog X.w) X.A (call (.ref f) args.pos args.kw) (EP X pins σ Q) X.xe s := by
  have e0 := I.env0
  rw [C.hK] at e0
  refine wpAny_call (codeAny_mono (F.run X.A X.stack s H args us vs Q _ (C.rm.mono hk) C.gd e0 hb r h) fun z s' hq => ?_)
  cases z with
  | error e => exact passAt C.tk σ pins H s e s' I hq
  | ok fl =>
    cases fl with
    | ret u => exact I.after hq
    | next => exact False.elim hq
    | brk => exact False.elim hq
    | cont => exact False.elim hq
def wCall (sp : DSp) (dds : List D) (ma : WA) : WE := fun r S Q E => ma r S (fun vs S1 => sp (vs ++ dds) S1 Q E) E
theorem mon_call (hs : DMon sp) (hm : MonA ma) : Mon (wCall sp dds ma) := fun r S Q Q' E E' hq he h => hm _ _ _ _ _ _ (fun vs S1 q => hs _ _ _ _ _ _ hq he q) he h
theorem re_call (C : CxG G X W n) (F : FnG G X.prog X.w X.mg X.base k f fd ps sp) (hk : k ≤ n) (hg : Gl X x) (hm : X.mg x = some (.ref f)) (kp : PySem.W.keepIn X.K (.ref f) = true) (hb : Binds X.K fd ps ds) (hd : Vals dvs ds) (hdd : ∀ w, RepDs G w dvs dds) (ha : RA G X W (e :: es) ma)
    (hdb : (x == ("__debug__" : Str)) = false := by decide) (he : starEach (e :: es) X.env = (false, eval e X.env) :: starEach es X.env := by rfl) (hpl : (backTo pos (starEach es X.env)).any (·.1) = false := by rfl) :
    RE G X W (.Call (.Name x p) (e :: es) [] pos) (wCall sp dds ma) := by
  refine ⟨⟨fun pins s σ H Q I ⟨w, S, ρ, ok, en, q⟩ => ?_⟩, mon_call F.mono ha.mono⟩
  refine wpAny_Call_Name_kw (ld_glob I hg hm ?_ hdb)
  have h1 : tMa G W ma σ H fun vs H1 => spV G sp (vs ++ dvs) H1 Q fun c d H' => W c d σ H' := by
    refine ⟨w, S, ρ, ok, en, ha.mono ρ S _ _ _ _ (fun xs S1 q vs w1 H1 x1 k1 r => ?_) (fun _ _ z => z) q⟩
    exact ⟨w1, S1, xs ++ dds, k1, r.append (hdd w1), F.mono _ _ _ _ _ _ (fun _ _ z => z.ext x1) (fun _ _ z => z.ext x1) q⟩
  refine PySem.W.callWith_K (h₀ := X.base) I.ok.mod.kin kp (thn (ha.pe.run pos pins s σ H _ I h1) fun us s1 ⟨vs, H1, I1, r, q⟩ => ⟨I1.kIn, ?_⟩) he hpl
  have r2 : Vals (vs ++ dvs) (us ++ ds) := r.append hd
  have hl : (us ++ ds).length = ps.length := by
    obtain ⟨w2, S2, es2, _, rd, q2⟩ := id q
    rw [← r2.length, rd.length]; exact F.len _ _ _ _ q2
  exact run_g (args := ⟨us, []⟩) C F hk I1 (hb s1 us I1.kIn hl) r2 q
theorem re_call0 (C : CxG G X W n) (F : FnG G X.prog X.w X.mg X.base k f fd ps sp) (hk : k ≤ n) (hg : Gl X x) (hm : X.mg x = some (.ref f)) (kp : PySem.W.keepIn X.K (.ref f) = true) (hb : Binds X.K fd ps ds) (hd : Vals dvs ds) (hdd : ∀ w, RepDs G w dvs dds)
    (hdb : (x == ("__debug__" : Str)) = false := by decide) : RE G X W (.Call (.Name x p) [] [] pos) (wCall sp dds wNil) := by
  refine ⟨⟨fun pins s σ H Q I ⟨w, S, ρ, ok, en, q⟩ => ?_⟩, mon_call F.mono (fun _ _ _ _ _ _ hq _ h => hq _ _ h)⟩
  refine wpAny_Call_Name_kw (ld_glob I hg hm ?_ hdb)
  refine PySem.W.callWith_K0 I.kIn kp ?_
  have q1 : spV G sp dvs H Q fun c d H' => W c d σ H' := ⟨w, S, dds, ok, hdd w, q⟩
  have hl : ([] ++ ds).length = ps.length := by
    obtain ⟨w2, S2, es2, _, rd, q2⟩ := id q1
    rw [List.nil_append, ← hd.length, rd.length]; exact F.len _ _ _ _ q2
  exact run_g (args := ⟨[], []⟩) C F hk I (hb s [] I.kIn hl) hd q1
/-! keywords -/
structure RK (G : Glob) (X : Cx) (W : WX) (kws : List Keyword) (m : WA) : Prop where
  pk : PK X kws (tMa G W m)
  mono : MonA m
theorem PK.imp {kws : List Keyword} {t u : TA} (h : PK X kws t) (i : ∀ σ H Q, u σ H Q → t σ H Q) : PK X kws u := ⟨fun pos pins s σ H Q I q => h.run pos pins s σ H Q I (i σ H Q q)⟩
theorem rk_nil : RK G X W [] wNil := ⟨PK.imp pk_nil fun σ H Q ⟨w, S, ρ, ok, en, q⟩ => q [] w H (Ext.refl w H) ok trivial, fun _ _ _ _ _ _ hq _ h => hq _ _ h⟩
theorem rk_cons {nm : Option Str} {kpos : Pos} {kws : List Keyword} {m : WE} {t : WA} (ha : RE G X W e m) (hr : RK G X W kws t) : RK G X W (⟨nm, e, kpos⟩ :: kws) (wCons m t) := by
  refine ⟨PK.imp (pk_cons ha.pe hr.pk) fun σ H Q ⟨w, S, ρ, ok, en, q⟩ => ?_, fun r S Q Q' E E' hq he h => ha.mono r S _ _ _ _ (fun d S1 q => hr.mono r S1 _ _ _ _ (fun ds S2 q2 => hq _ _ q2) he q) he h⟩
  refine tM.bind ha.mono ok en q (fun _ _ _ z => z) fun d1 S1 x w1 H1 x1 k1 r1 q1 => ?_
  exact ⟨w1, S1, ρ, k1, en.mono x1, hr.mono ρ S1 _ _ _ _ (fun ds S2 q2 ys w2 H2 x2 k2 r2 => q2 (x :: ys) w2 H2 (x1.trans x2) k2 ⟨r1.mono x2, r2⟩) (fun x S' q => q.ext x1) q1⟩
/-- f(k = v, ..) with all parameters by keywords, in some order -/
def wCallK (sp : DSp) (g : List D → List D) (mk : WA) : WE := fun r S Q E => mk r S (fun zs S1 => sp (g zs) S1 Q E) E
theorem re_callK0 {kws : List Keyword} {g : List Value → List Value} {gV : List V → List V} {gD : List D → List D} (C : CxG G X W n) (F : FnG G X.prog X.w X.mg X.base k f fd ps sp) (hk : k ≤ n) (hg : Gl X x) (hm : X.mg x = some (.ref f)) (kp : PySem.W.keepIn X.K (.ref f) = true)
    (hb : ∀ (s : Shared) (ws : List Value), X.K.In s.heap → ws.length = ks.length → BindsTo s fd ⟨[], ks.zip ws⟩ (ps.zip (g ws))) (hgl : ∀ zs : List D, (gD zs).length = ps.length → zs.length = ks.length) (hrel : ∀ {zs : List V} {ws : List Value}, Vals zs ws → Vals (gV zs) (g ws)) (hdd : ∀ w zs ds, RepDs G w zs ds → RepDs G w (gV zs) (gD ds)) (hkw : RK G X W kws mk)
    (hall : (backToKw pos (keywordEach kws X.env)).all (·.1.isSome) = true := by rfl) (hks : (backToKw pos (keywordEach kws X.env)).filterMap (·.1) = ks := by rfl) (hdb : (x == ("__debug__" : Str)) = false := by decide)
    (hpl : ((backTo pos (starEach [] X.env)).any (·.1) || (backToKw pos (keywordEach kws X.env)).any (·.1.isNone)) = false := by rfl) :
    RE G X W (.Call (.Name x p) [] kws pos) (wCallK sp gD mk) := by
  refine ⟨⟨fun pins s σ H Q I ⟨w, S, ρ, ok, en, q⟩ => ?_⟩, fun r S Q Q' E E' hq he h => hkw.mono _ _ _ _ _ _ (fun vs S1 q => F.mono _ _ _ _ _ _ hq he q) he h⟩
  refine wpAny_Call_Name_kw (ld_glob I hg hm ?_ hdb)
  have h1 : tMa G W mk σ H fun zs H1 => spV G sp (gV zs) H1 Q (fun c d H' => W c d σ H') ∧ zs.length = ks.length := by
    refine ⟨w, S, ρ, ok, en, hkw.mono ρ S _ _ _ _ (fun xs S1 q vs w1 H1 x1 k1 r => ⟨?_, ?_⟩) (fun _ _ z => z) q⟩
    · exact ⟨w1, S1, gD xs, k1, hdd w1 vs xs r, F.mono _ _ _ _ _ _ (fun _ _ z => z.ext x1) (fun _ _ z => z.ext x1) q⟩
    · rw [r.length]
      exact hgl xs (F.len _ _ _ _ q)
  refine PySem.W.callWith_KW0 (h₀ := X.base) I.ok.mod.kin kp hall ?_ hpl
  refine thn (hkw.pk.run pos pins s σ H _ I h1) fun ws s2 ⟨zs, H2, I2, rz, q2, l2⟩ => ⟨I2.kIn, ?_⟩
  rw [hks]
  exact run_g (args := ⟨[], ks.zip ws⟩) C F hk I2 (hb s2 ws I2.kIn (by rw [← rz.length]; exact l2)) (hrel rz) q2
end
end RB
/-! The lifted layer: a law's end. -/
namespace RB
open PySem PySem.Spec PyProof.Rows L2

theorem reps_ints {G : Glob} {I : Hp} : ∀ ns : List Int, Reps G I (ns.map V.int) (ns.map RB.P.int)
  | [] => Reps.nil
  | n :: ns => Reps.cons (by simp only [Rep]) (reps_ints ns)
theorem law_g {G : Glob} {P : Program} {w : World} {mg mb : Str → Option Value} {k : Nat} {fa a : Addr} {fd : FuncData} {x : Str} {sp : DSp} {s1 : Shared} {vs : List Value} {ns : List Int}
    (KX : G.K.In s1.heap) (hns : s1.heap.Ns mainGlobals mg) (hb : s1.heap.Ns builtinsNs mb) (hbb : ∀ x : Str, x ≠ "__name__" → mb x = bootBuiltins x) (hlim : s1.heap.NoLimit) (hg : s1.gens = #[])
    (ha : s1.heap.get? a = some { cls := .type "list", data := .seq vs.toArray }) (hi : IntsAre vs ns) (hl : ns.length ≤ sizeLine) (hr : Room k callerA)
    (F : ∀ base : Heap, G.K.In base → base.Ns mainGlobals mg → FnG G P w mg base k fa fd [x] sp) (hbind : ∀ (s : Shared) (u : Value), BindsTo s fd ⟨[u], []⟩ [(x, u)])
    (hsp : sp [.p (.scr (ns.map RB.P.int))] [] (fun d _ => d = .p (.bl true)) fun _ _ => False) :
    codeAny (model P w) callerA (.call (.ref fa) ⟨[.ref a], []⟩) (fun r s' => r = .ok (.ret (.bool true)) ∧ OldK s1.heap s'.heap ∧ s'.os = s1.os ∧ AllBare s'.gens) s1 := by
  have rv := vals_ints hi
  have lenV := hi.length
  have core : ∀ H : Hp, (∀ b u, H b = some u → b = a ∧ ∃ o xs, u = .frz o (.lst xs)) → SqL G.K H a (ns.map V.int) → HOk P w H s1.heap → (H a ≠ none → G.K.lookup a = none) →
      codeAny (model P w) callerA (.call (.ref fa) ⟨[.ref a], []⟩) (fun r s' => r = .ok (.ret (.bool true)) ∧ OldK s1.heap s'.heap ∧ s'.os = s1.os ∧ AllBare s'.gens) s1 := by
    intro H hO hS hok hK
    have still : ∀ {b : Addr} {o : Obj}, s1.heap.get? b = some o → (∀ its n, o.data ≠ .seq its n) → (hidT s1.heap H).get? b = some o := fun {b o} e nd => hidT_get e (by
      cases q : H b with
      | none => rfl
      | some u =>
        obtain ⟨rfl, _⟩ := hO b u q
        rw [ha] at e
        cases e
        exact absurd rfl (nd _ _))
    have nsK : ∀ {b : Addr} {m : Str → Option Value}, s1.heap.Ns b m → (hidT s1.heap H).Ns b m := fun {b m} ⟨o, es, ep, e, d, r⟩ => ⟨o, es, ep, still e (fun its n z => by rw [d] at z; cases z), d, r⟩
    have kin : G.K.In (hidT s1.heap H) := fun b o e => hidT_get (KX b o e) (by
      cases q : H b with
      | none => rfl
      | some u =>
        obtain ⟨rfl, _⟩ := hO b u q
        rw [hK (by rw [q]; simp)] at e
        cases e)
    obtain ⟨mc, l1, l2⟩ := hlim
    have md : Mod G.K mg (hidT s1.heap H) := ⟨kin, nsK hns, ⟨mb, nsK hb, hbb⟩, ⟨mc, nsK l1, l2⟩⟩
    have e0 : Env0 P w G.K mg (hidT s1.heap H) callerA [] s1 H := ⟨rfl, md, fun b o e => of_hidT e, Nat.le_of_eq (hidT_size _ _), trivial, fun b z => (nomatch (show b ∈ ([] : List Addr) from z)), hok, .of_eq hg⟩
    have ok : Wok G ⟨H, []⟩ [] H := ⟨Same.refl _, rfl, List.nodup_nil, fun n c a h _ => by simp at h⟩
    have spv : spV G sp [.ref a] H (fun v H' => v = .bl true) (fun _ _ _ => False) := by
      refine ⟨⟨H, []⟩, [], [.p (.scr (ns.map RB.P.int))], ok, ⟨rep_scr.mpr ⟨a, _, rfl, hS, reps_ints ns⟩, trivial⟩, (F _ kin (nsK hns)).mono _ _ _ _ _ _ (fun d S e v w' H' x k r => ?_) (fun _ _ z => z.elim) hsp⟩
      subst e
      exact rep_bl.mp r
    refine codeAny_mono ((F _ kin (nsK hns)).run callerA [] s1 H ⟨[.ref a], []⟩ [.ref a] [.ref a] _ _ hr rfl e0 (hbind s1 (.ref a)) (.cons rfl .nil) spv) fun r s' h => ?_
    cases r with
    | error e =>
      obtain ⟨_, _, _, _, _, _, _, _, _, _, _, _, z⟩ := h
      exact z.elim
    | ok fl =>
      cases fl with
      | next => exact False.elim h
      | brk => exact False.elim h
      | cont => exact False.elim h
      | ret u =>
        obtain ⟨v, H', os, bare, un, hok', r', q⟩ := h
        have q' : v = .bl true := q
        subst q'
        have eu : u = Value.bool true := r'
        subst eu
        refine ⟨rfl, OldK.of_keep fun b o e => ?_, os, bare⟩
        cases q : H b with
        | none => exact un.keep b o e q (fun z => nomatch (show b ∈ ([] : List Addr) from z)) (by simp)
        | some u =>
          obtain ⟨_, ob, xs, rfl⟩ := hO b u q
          have z2 := un.frzs b ob _ q
          obtain ⟨e1, _⟩ := hok b _ q
          obtain ⟨e2, _⟩ := hok' b _ z2
          rw [e] at e1; cases e1
          exact e2
  cases hk : G.K.lookup a with
  | some o =>
    have e := KX a o hk
    rw [ha] at e
    cases e
    exact core (fun _ => none) (fun b u z => by cases z) (.inr ⟨_, vs.toArray, _, hk, rfl, rfl, rfl, by rw [List.size_toArray, lenV]; exact hl, by simpa using rv⟩) (fun b u z => by cases z) fun z => absurd rfl z
  | none =>
    have hat : ∀ b u, (if b = a then some (HO.frz { cls := .type "list", data := .seq vs.toArray } (.lst (ns.map V.int))) else none) = some u → b = a ∧ u = .frz { cls := .type "list", data := .seq vs.toArray } (.lst (ns.map V.int)) := fun b u z => by
      by_cases e : b = a
      · rw [if_pos e] at z; cases z; exact ⟨e, rfl⟩
      · rw [if_neg e] at z; cases z
    refine core (fun b => if b = a then some (.frz { cls := .type "list", data := .seq vs.toArray } (.lst (ns.map V.int))) else none) (fun b u z => ?_) (.inl (.inr ⟨{ cls := .type "list", data := .seq vs.toArray }, if_pos rfl⟩)) (fun b u z => ?_) fun _ => hk
    · obtain ⟨h1, h2⟩ := hat b u z
      exact ⟨h1, _, _, h2⟩
    · obtain ⟨h1, h2⟩ := hat b u z
      subst h1; subst h2
      exact ⟨ha, by rw [List.length_map]; exact hl, vs, _, rv, ha⟩
theorem walk_g {l : PySem.W.OpenLaw} {n k : Nat} {q : Program} {loose : List Str} {XP : (Str → Option Value) → Heap → Prop} {YP : World → Heap → Prop} {d : DefRec} {x : Str}
    (hn : l.most = some n) (hn2 : n ≤ sizeLine) (hdf : d.params.defaults = []) (hr : Room k callerA)
    (F : ∀ (w : World) (mg : Str → Option Value) (fa : Addr) (h : Heap), YP w h → h.Ns mainGlobals mg → mg d.name = some (.ref fa) →
      ∃ (G : Glob) (fd : FuncData) (sp : DSp), G.K.In h ∧ (∀ (s : Shared) (u : Value), BindsTo s fd ⟨[u], []⟩ [(x, u)]) ∧
        (∀ ns : List Int, ns.length ≤ n → sp [.p (.scr (ns.map RB.P.int))] [] (fun d _ => d = .p (.bl true)) fun _ _ => False) ∧
        ∀ base : Heap, G.K.In base → base.Ns mainGlobals mg → FnG G l.prog w mg base k fa fd [x] sp) :
    PySem.W.WalkO q loose XP YP l.row.toRowW d [] (fun f vs => PySem.call f vs) := by
  refine Att.attach_call hn hdf fun w s0 s1 mg mb fa o pm cd doc a vs ns G Y ho hd hcd hmg hobj hints hlen hg => ?_
  obtain ⟨Gl, fd, sp, KX, hb, hsp, hF⟩ := F w mg fa _ Y G.T.g hmg
  exact law_g KX G.T.g G.T.b G.T.builtins G.T.nolimit hg hobj hints (Nat.le_trans hlen hn2) hr hF hb (hsp ns hlen)
end RB
/-! The lifted layer: things of the store changed. -/
namespace RB
open PySem PySem.Spec PyProof.Rows L2
section
variable {G : Glob} {X : Cx} {W : WX} {e a b c o i value : Expr} {pos pos' : Pos}

/-! ### d[k] = v -/
def dDPut (d dk dv : D) (S : Store) (K : Store → Prop) : Prop := match keyOf dk, d, dv with
  | some k, .cell n, .p v => match S[n]? with
    | some (.dK ks vs) => ks.length < sizeLine ∧ (if (ks.any fun k' => decide (k' = k)) = true then K (S.set n (.dK ks (kset ks vs k v))) else K (S.set n (.dK (ks ++ [k]) (vs ++ [v]))))
    | _ => False
  | _, _, _ => False
def wDPut (mo mi mv : WE) : WS := fun D r S => mv r S (fun dv S1 => mo r S1 (fun d S2 => mi r S2 (fun dk S3 => dDPut d dk dv S3 (fun S4 => D.nx r S4)) (D.xc r)) (D.xc r)) (D.xc r)
theorem rs_dput {mo mi mv : WE} (hu : X.A.units + 1 < cLine) (ho : RE G X W o mo) (hi : RE G X W i mi) (hv : RE G X W value mv) (hs : swapsWith value (some (.Subscript o i pos')) pos.line X.env = pure false := by rfl) :
    RS G X W (.Assign [.Subscript o i pos'] value pos) (wDPut mo mi mv) := by
  refine ⟨PS.imp (ps_dput hu ho.pe hi.pe hv.pe hs) fun D σ H ⟨w, S, ρ, ok, en, q⟩ => ?_, fun D D' r S l q => hv.mono _ _ _ _ _ _ (fun dv S1 q => ho.mono _ _ _ _ _ _ (fun d S2 q => hi.mono _ _ _ _ _ _ (fun dk S3 q => ?_) (l.xc r) q) (l.xc r) q) (l.xc r) q⟩
  · refine tM.low hv.mono ok en q fun dv S1 v w1 H1 x1 k1 r1 q1 => ?_
    refine tM.low ho.mono k1 (en.mono x1) (ho.mono _ _ _ _ _ _ (fun _ _ z => z) (fun y S' z => Sx.ext x1 z) q1) fun d S2 x w2 H2 x2 k2 r2 q2 => ?_
    have x12 := x1.trans x2
    refine tM.low hi.mono k2 (en.mono x12) (hi.mono _ _ _ _ _ _ (fun _ _ z => z) (fun y S' z => Sx.ext x12 z) q2) fun dk S3 y w3 H3 x3 k3 r3 q3 => ?_
    have x13 := x12.trans x3
    unfold dDPut at q3
    split at q3
    · rename_i k n p e1
      split at q3
      · rename_i ks vs hs
        obtain ⟨hl, q3⟩ := q3
        have ey := keyOf_ok r3 e1
        subst ey
        obtain ⟨a, rfl, hn⟩ := rep_cell.mp (r2.mono x3)
        obtain ⟨nI, kvs, z, h1, h2⟩ := k3.cells n _ a hs hn
        have rv : Rep G w3.I v p := (r1.mono x2).mono x3
        have lk : kvs.length = ks.length := by rw [← h1, List.length_map]
        refine ⟨a, _, rfl, DPut.k (k := k) z (by rw [lk]; exact hl), ?_⟩
        split at q3
        · rename_i hk
          have hp : putK kvs k v = kvs.map fun kv => if kv.1 = k then (kv.1, v) else kv := by
            unfold putK
            rw [if_pos]
            rw [← h1, List.any_map] at hk
            exact hk
          obtain ⟨i1, i2⟩ := kmap_ok (k := k) rv h2
          obtain ⟨k4, x4⟩ := k3.write (o := .dK (putK kvs k v)) (c' := .dK ks (kset ks vs k p)) hs hn nI ⟨nI, _, upd_same, by rw [hp, i1, h1], by rw [hp, ← h1]; exact i2⟩
          exact q3 σ w3 _ (x13.trans x4) k4 ((en.mono x13).mono x4)
        · rename_i hk
          have hp : putK kvs k v = kvs ++ [(k, v)] := putK_new (by rw [h1]; exact fun z => hk (List.any_eq_true.mpr ⟨k, z, decide_eq_true rfl⟩))
          obtain ⟨k4, x4⟩ := k3.write (o := .dK (putK kvs k v)) (c' := .dK (ks ++ [k]) (vs ++ [p])) hs hn nI ⟨nI, _, upd_same, by rw [hp, List.map_append, h1]; rfl, by rw [hp, List.map_append]; exact h2.append (Reps.cons rv Reps.nil)⟩
          exact q3 σ w3 _ (x13.trans x4) k4 ((en.mono x13).mono x4)
      · exact q3.elim
    · exact q3.elim
  · unfold dDPut at q ⊢
    split at q
    · split at q
      · refine ⟨q.1, ?_⟩
        have q := q.2
        split at q
        · rename_i hk; rw [if_pos hk]; exact l.nx _ _ q
        · rename_i hk; rw [if_neg hk]; exact l.nx _ _ q
      · exact q.elim
    · exact q.elim
end
end RB
/-! The lifted layer: names of built-ins, short words. -/
namespace RB
open PySem PySem.Spec PyProof.Rows L2
theorem bo_len : bootBuiltins (Str.ofString "len") = some (.builtin "len") := by decide +kernel
theorem bo_abs : bootBuiltins (Str.ofString "abs") = some (.builtin "abs") := by decide +kernel
theorem bo_min : bootBuiltins (Str.ofString "min") = some (.builtin "min") := by decide +kernel
theorem bo_max : bootBuiltins (Str.ofString "max") = some (.builtin "max") := by decide +kernel
theorem bo_all : bootBuiltins (Str.ofString "all") = some (.builtin "all") := by decide +kernel
theorem bo_any : bootBuiltins (Str.ofString "any") = some (.builtin "any") := by decide +kernel
theorem bo_sum : bootBuiltins (Str.ofString "sum") = some (.builtin "sum") := by decide +kernel
theorem bo_repr : bootBuiltins (Str.ofString "repr") = some (.builtin "repr") := by decide +kernel
theorem bo_isinstance : bootBuiltins (Str.ofString "isinstance") = some (.builtin "isinstance") := by decide +kernel
theorem bo_int : bootBuiltins (Str.ofString "int") = some (.type "int") := by decide +kernel
theorem bo_str : bootBuiltins (Str.ofString "str") = some (.type "str") := by decide +kernel
theorem bo_bool : bootBuiltins (Str.ofString "bool") = some (.type "bool") := by decide +kernel
theorem bo_list : bootBuiltins (Str.ofString "list") = some (.type "list") := by decide +kernel
theorem bo_tuple : bootBuiltins (Str.ofString "tuple") = some (.type "tuple") := by decide +kernel
theorem bo_dict : bootBuiltins (Str.ofString "dict") = some (.type "dict") := by decide +kernel
abbrev dSub := dInt (fun _ _ => True) fun i j => .int (i - j)
abbrev dFdiv := dInt CDivW fun i j => .int (i / j)
abbrev dMod := dInt (fun _ j => 0 < j) fun i j => .int (i % j)
abbrev dPow := dInt CPow fun i j => .int (i ^ j.toNat)
abbrev dLt := dInt (fun _ _ => True) fun i j => .bl (decide (i < j))
abbrev dLe := dInt (fun _ _ => True) fun i j => .bl (decide (i ≤ j))
abbrev dGt := dInt (fun _ _ => True) fun i j => .bl (decide (j < i))
abbrev dGe := dInt (fun _ _ => True) fun i j => .bl (decide (j ≤ i))
abbrev dAbs := dI1 fun i => .int (if i < 0 then -i else i)
abbrev dMin2 := dInt (fun _ _ => True) fun i j => .int (if j < i then j else i)
abbrev dMax2 := dInt (fun _ _ => True) fun i j => .int (if j > i then j else i)
abbrev dListOf := dQ1 fun ds S Q => Q (.p (.lst ds)) S
abbrev dListC := dQ1 fun ds S Q => Q (.cell S.length) (S ++ [.lst ds])
abbrev dTupleOf := dQ1 fun ds S Q => Q (.p (.tup ds)) S
abbrev dAll := dBls fun bs => bs.all id
abbrev dAny := dBls fun bs => bs.any id
abbrev wDictP := wDict (fun ks vs S Q => Q (.p (.dK ks vs)) S)
abbrev wDictC := wDict (fun ks vs S Q => Q (.cell S.length) (S ++ [.dK ks vs]))
section
variable {K : PySem.W.Frag} {x qual : Str} {params : Arguments} {body : List Stmt} {scope : Scope} {kws : List (Str × V)} {f : Addr} {fd : FuncData} {ps ks : List Str}
/-- a def without defaults, called by keywords alone -/
theorem kb_of (F : FunD K x qual params body scope [] kws f fd) {g : List Value → List Value}
    (h : ∀ (kV doc pm : Value) (an : Option Addr) (cdv ct : Value) (ws : List Value), ws.length = ks.length → bindArgs (PySem.W.fnOf x qual params body scope .none kV doc pm an cdv ct) ⟨[], ks.zip ws⟩ = pure (ps.zip (g ws))) (s : Shared) (ws : List Value) (hl : ws.length = ks.length) :
    BindsTo s fd ⟨[], ks.zip ws⟩ (ps.zip (g ws)) := by
  obtain ⟨oc, od, dV, kV, doc, pm, an, cdv, ct, osl, rfl, lk, hcd, hD, hK⟩ := F.ex
  rcases hD with ⟨_, rfl⟩ | ⟨e, _⟩
  · exact .of_eq (h kV doc pm an cdv ct ws hl)
  · exact absurd rfl e
end
section
variable {G : Glob} {X : Cx} {W : WX} {n k : Nat} {f : Addr} {fd : FuncData} {ps : List Str} {sp : DSp} {x : Str} {p pos : Pos} {e : Expr} {es : List Expr} {ma : WA}
theorem re_callN (C : CxG G X W n) (F : FnG G X.prog X.w X.mg X.base k f fd ps sp) (hk : k ≤ n) (hg : Gl X x) (hm : X.mg x = some (.ref f)) (kp : PySem.W.keepIn X.K (.ref f) = true) (hb : Binds X.K fd ps []) (ha : RA G X W (e :: es) ma)
    (hdb : (x == ("__debug__" : Str)) = false := by decide) (he : starEach (e :: es) X.env = (false, eval e X.env) :: starEach es X.env := by rfl) (hpl : (backTo pos (starEach es X.env)).any (·.1) = false := by rfl) :
    RE G X W (.Call (.Name x p) (e :: es) [] pos) (wCall sp [] ma) := re_call C F hk hg hm kp hb .nil (fun _ => trivial) ha hdb he hpl
theorem re_callN0 (C : CxG G X W n) (F : FnG G X.prog X.w X.mg X.base k f fd ps sp) (hk : k ≤ n) (hg : Gl X x) (hm : X.mg x = some (.ref f)) (kp : PySem.W.keepIn X.K (.ref f) = true) (hb : Binds X.K fd ps [])
    (hdb : (x == ("__debug__" : Str)) = false := by decide) : RE G X W (.Call (.Name x p) [] [] pos) (wCall sp [] wNil) := re_call0 C F hk hg hm kp hb .nil (fun _ => trivial) hdb
end
end RB
/-! The lifted layer: mirrors run step by step. -/
namespace RB
open PySem PySem.Spec PyProof.Rows L2
section
variable {r r' : Rho} {S : Store} {Q : DK} {E : EK} {nx bk ct : Rho → Store → Prop} {rt : DK} {xc : Rho → EK} {m m1 m2 m3 : WE} {t t1 t2 : WT} {ma : WA} {s1 s2 : WS} {i j : Nat} {d d1 d2 : RB.D} {QT : Bool → Store → Prop} {QA : List RB.D → Store → Prop}
theorem st_seq (h : s1 ⟨s2 ⟨nx, rt, bk, ct, xc⟩, rt, bk, ct, xc⟩ r S) : wSeq s1 s2 ⟨nx, rt, bk, ct, xc⟩ r S := h
theorem st_next (h : nx r S) : wNext ⟨nx, rt, bk, ct, xc⟩ r S := h
theorem st_set (h : m r S (fun d S1 => nx (r.set i (some d)) S1) (xc r)) : wSet i m ⟨nx, rt, bk, ct, xc⟩ r S := h
theorem st_ret (h : m r S rt (xc r)) : wRet m ⟨nx, rt, bk, ct, xc⟩ r S := h
theorem st_retN (h : rt (.p .non) S) : wRetN ⟨nx, rt, bk, ct, xc⟩ r S := h
theorem st_drop (h : m r S (fun _ S1 => nx r S1) (xc r)) : wDrop m ⟨nx, rt, bk, ct, xc⟩ r S := h
theorem st_ifS (h : t r S (fun b S1 => if b = true then s1 ⟨nx, rt, bk, ct, xc⟩ r S1 else s2 ⟨nx, rt, bk, ct, xc⟩ r S1) (xc r)) : wIfS t s1 s2 ⟨nx, rt, bk, ct, xc⟩ r S := h
theorem st_c (h : Q d S) : wC d r S Q E := h
theorem st_var (e : r[i]? = some (some d)) (h : Q d S) : wVar i r S Q E := by
  unfold wVar
  rw [e]
  exact h
theorem st_bin {f : RB.D → RB.D → Store → DK → Prop} (h : m1 r S (fun d1 S1 => m2 r S1 (fun d2 S2 => f d1 d2 S2 Q) E) E) : wBin f m1 m2 r S Q E := h
theorem st_un {f : RB.D → Store → DK → Prop} (h : m r S (fun d S1 => f d S1 Q) E) : wUn f m r S Q E := h
theorem st_cb {f : List RB.D → Store → DK → Prop} (h : ma r S (fun ds S1 => f ds S1 Q) E) : wCB f ma r S Q E := h
theorem st_nil (h : QA [] S) : wNil r S QA E := h
theorem st_cons (h : m r S (fun d S1 => ma r S1 (fun ds S2 => QA (d :: ds) S2) E) E) : wCons m ma r S QA E := h
theorem st_b1 {f : RB.D → Store → DK → Prop} (h : f d S Q) : b1 f [d] S Q := h
theorem st_b2 {f : RB.D → RB.D → Store → DK → Prop} (h : f d1 d2 S Q) : b2 f [d1, d2] S Q := h
theorem st_call {sp : DSp} {dds : List RB.D} (h : ma r S (fun vs S1 => sp (vs ++ dds) S1 Q E) E) : wCall sp dds ma r S Q E := h
theorem st_callK {sp : DSp} {g : List RB.D → List RB.D} (h : ma r S (fun vs S1 => sp (g vs) S1 Q E) E) : wCallK sp g ma r S Q E := h
theorem st_test (h : m r S (fun d S1 => match d with
  | .p (.bl b) => QT b S1
  | _ => False) E) : wTest m r S QT E := h
theorem st_and (h : t1 r S (fun b S1 => if b = true then t2 r S1 QT E else QT false S1) E) : wAnd t1 t2 r S QT E := h
theorem st_or (h : t1 r S (fun b S1 => if b = true then QT true S1 else t2 r S1 QT E) E) : wOr t1 t2 r S QT E := h
theorem st_not (h : t1 r S (fun b S1 => QT (!b) S1) E) : wNot t1 r S QT E := h
theorem st_yes (h : QT true S) : wYes r S QT E := h
theorem st_andV (h : m1 r S (fun d S1 => match d with
  | .p (.bl true) => m2 r S1 Q E
  | .p (.bl false) => Q (.p (.bl false)) S1
  | _ => False) E) : wAndV m1 m2 r S Q E := h
theorem st_orV (h : m1 r S (fun d S1 => match d with
  | .p (.bl true) => Q (.p (.bl true)) S1
  | .p (.bl false) => m2 r S1 Q E
  | _ => False) E) : wOrV m1 m2 r S Q E := h
theorem st_notV (h : m r S (fun d S1 => match d with
  | .p (.bl b) => Q (.p (.bl (!b))) S1
  | _ => False) E) : wNotV m r S Q E := h
theorem st_if (h : t r S (fun b S1 => if b = true then m1 r S1 Q E else m2 r S1 Q E) E) : wIf t m1 m2 r S Q E := h
theorem st_chain {f g : RB.D → RB.D → Store → DK → Prop} (h : m1 r S (fun d1 S1 => m2 r S1 (fun d2 S2 => f d1 d2 S2 (fun z S3 => match z with
  | .p (.bl true) => m3 r S3 (fun d3 S4 => g d2 d3 S4 Q) E
  | .p (.bl false) => Q (.p (.bl false)) S3
  | _ => False)) E) E) : wChain f g m1 m2 m3 r S Q E := h
theorem st_disp {mk : List P → P} (h : ma r S (fun ds S1 => match allP ds with
  | some ps => ps.length ≤ sizeLine ∧ Q (.p (mk ps)) S1
  | none => False) E) : wDisp mk ma r S Q E := h
theorem st_newL (h : ma r S (fun ds S1 => match allP ds with
  | some ps => ps.length ≤ sizeLine ∧ Q (.cell S1.length) (S1 ++ [.lst ps])
  | none => False) E) : wNewL ma r S Q E := h
theorem st_sl {ml mh : WO} (h : m r S (fun d S1 => ml r S1 (fun lo S2 => mh r S2 (fun hi S3 => dSl d lo hi S3 Q) E) E) E) : wSl m ml mh r S Q E := h
theorem st_noP {QO : Option Int → Store → Prop} (h : QO none S) : wNoP r S QO E := h
theorem st_part {QO : Option Int → Store → Prop} (h : m r S (fun d S1 => match d with
  | .p (.int i) => QO (some i) S1
  | _ => False) E) : wPart m r S QO E := h
theorem st_dput {mo mi mv : WE} (h : mv r S (fun dv S1 => mo r S1 (fun d S2 => mi r S2 (fun dk S3 => dDPut d dk dv S3 (fun S4 => nx r S4)) (xc r)) (xc r)) (xc r)) : wDPut mo mi mv ⟨nx, rt, bk, ct, xc⟩ r S := h
theorem st_join (h : m1 r S (fun d1 S1 => match d1 with
  | .p (.str a) => m2 r S1 (fun d2 S2 => dJoin (.p (.str a)) d2 S2 Q) E
  | _ => False) E) : wJoin m1 m2 r S Q E := h
theorem st_lc {mi : WA} {T : Tgt} {vs : List Nat} (h : mi r S (fun ds S1 => lcRun T t m (wipeR r vs) ds [] S1 (fun ps S2 => Q (.p (.lst ps)) S2)) E) : wLC mi T t m vs r S Q E := h
theorem st_rng (h : ma r S (fun ds S1 => match ds with
  | [.p (.int j)] => -(2 ^ 62) ≤ j ∧ j < 2 ^ 62 ∧ QA (rngD 0 j.toNat) S1
  | [.p (.int i), .p (.int j)] => (-(2 ^ 62) ≤ i ∧ i < 2 ^ 62 ∧ -(2 ^ 62) ≤ j ∧ j < 2 ^ 62) ∧ QA (rngD i (j - i).toNat) S1
  | _ => False) E) : wRng ma r S QA E := h
theorem st_it (h : m r S (fun d S1 => match itemsOf S1 d with
  | some ds => QA ds S1
  | none => False) E) : wIt m r S QA E := h
theorem st_for {mi : WA} {T : Tgt} (h : mi r S (fun ds S1 => forRun T s1 ⟨nx, rt, bk, ct, xc⟩ ds r S1) (xc r)) : wFor mi T s1 ⟨nx, rt, bk, ct, xc⟩ r S := h
theorem st_isi2 {A B : String} (h : m r S (fun d S1 => match tyS S1 d with
  | some t => Q (.p (.bl (isB t A || isB t B))) S1
  | none => False) E) : wIsi2 A B m r S Q E := h
theorem st_dnew (h : Q (.p (.dK [] [])) S) : wDNew r S Q E := h
theorem st_dict {fin : List Key → List P → Store → DK → Prop} {ms : List (WE × WE)} (h : wPairs ms r S (fun ps S1 => match kvsOf ps with
  | some (ks, vs) => ks.Nodup ∧ ks.length ≤ 15 ∧ fin ks vs S1 Q
  | none => False) E) : wDict fin ms r S Q E := h
theorem st_pcons {k v : WE} {ms : List (WE × WE)} {QP : List (RB.D × RB.D) → Store → Prop} (h : k r S (fun dk S1 => v r S1 (fun dv S2 => wPairs ms r S2 (fun ps S3 => QP ((dk, dv) :: ps) S3) E) E) E) : wPairs ((k, v) :: ms) r S QP E := h
theorem st_pnil {QP : List (RB.D × RB.D) → Store → Prop} (h : QP [] S) : wPairs [] r S QP E := h
theorem st_ite {A B : Prop} {b : Bool} (h1 : b = true → A) (h2 : b = false → B) : if b = true then A else B := by
  cases b with
  | true => exact iteT (h1 rfl)
  | false => exact iteF (h2 rfl)
/-! values -/
variable {x y : Int}
theorem st_addI (h : Q (.p (.int (x + y))) S) : dAdd (.p (.int x)) (.p (.int y)) S Q := h
theorem st_addS {a b : Str} (l : a.length + b.length ≤ sizeLine) (h : Q (.p (.str (a ++ b))) S) : dAdd (.p (.str a)) (.p (.str b)) S Q := ⟨l, h⟩
theorem st_addL {a b : List P} (l : a.length + b.length ≤ sizeLine) (h : Q (.p (.lst (a ++ b))) S) : dAdd (.p (.lst a)) (.p (.lst b)) S Q := ⟨l, h⟩
theorem st_addT {a b : List P} (l : a.length + b.length ≤ sizeLine) (h : Q (.p (.tup (a ++ b))) S) : dAdd (.p (.tup a)) (.p (.tup b)) S Q := ⟨l, h⟩
theorem st_i0 {g : Int → Int → P} (h : Q (.p (g x y)) S) : dInt (fun _ _ => True) g (.p (.int x)) (.p (.int y)) S Q := ⟨trivial, h⟩
theorem st_i {C : Int → Int → Prop} {g : Int → Int → P} (c : C x y) (h : Q (.p (g x y)) S) : dInt C g (.p (.int x)) (.p (.int y)) S Q := ⟨c, h⟩
theorem st_mul (c : CMul x y ∨ CMulW x y) (h : Q (.p (.int (x * y))) S) : dMul (.p (.int x)) (.p (.int y)) S Q := ⟨c, h⟩
theorem st_neg (h : Q (.p (.int (-x))) S) : dNeg (.p (.int x)) S Q := h
theorem st_toInt (h : Q (.p (.int x)) S) : dToInt (.p (.int x)) S Q := h
theorem st_i1 {g : Int → P} (h : Q (.p (g x)) S) : dI1 g (.p (.int x)) S Q := h
theorem st_lenS {z : Str} (l : z.length ≤ sizeLine) (h : Q (.p (.int z.length)) S) : dLen (.p (.str z)) S Q := ⟨l, h⟩
theorem st_lenL {a : List P} (h : Q (.p (.int a.length)) S) : dLen (.p (.lst a)) S Q := h
theorem st_lenC {a : List P} (h : Q (.p (.int a.length)) S) : dLen (.p (.scr a)) S Q := h
theorem st_lenT {a : List P} (h : Q (.p (.int a.length)) S) : dLen (.p (.tup a)) S Q := h
theorem st_ixL {a : List P} {p : P} (e : atI a x = some p) (h : Q (.p p) S) : dIx (.p (.lst a)) (.p (.int x)) S Q := ⟨p, e, h⟩
theorem st_ixT {a : List P} {p : P} (e : atI a x = some p) (h : Q (.p p) S) : dIx (.p (.tup a)) (.p (.int x)) S Q := ⟨p, e, h⟩
theorem st_ixS {z : Str} {c : Nat} (l : z.length ≤ sizeLine) (e : atI z.cps.toList x = some c) (h : Q (.p (.str ⟨#[c]⟩)) S) : dIx (.p (.str z)) (.p (.int x)) S Q := ⟨l, c, e, h⟩
theorem st_slS {z : Str} {lo hi : Option Int} (l : z.length ≤ sizeLine) (h : Q (.p (.str (cutS z lo hi))) S) : dSl (.p (.str z)) lo hi S Q := ⟨l, h⟩
theorem st_lstL {a : List P} (h : Q (.p (.lst a)) S) : dListOf (.p (.lst a)) S Q := h
theorem st_lstT {a : List P} (h : Q (.p (.lst a)) S) : dListOf (.p (.tup a)) S Q := h
theorem st_tupL {a : List P} (h : Q (.p (.tup a)) S) : dTupleOf (.p (.lst a)) S Q := h
theorem st_tupT {a : List P} (h : Q (.p (.tup a)) S) : dTupleOf (.p (.tup a)) S Q := h
theorem st_reprB {b : Bool} (h : Q (.p (.str (if b then "True" else "False"))) S) : dReprB (.p (.bl b)) S Q := h
theorem st_isi {T t : String} (hT : T ∈ ["bool", "int", "str", "tuple", "list", "dict"]) (e : tyS S d = some t) (h : Q (.p (.bl (isB t T))) S) : dIsi d (.p (.ty T)) S Q := ⟨hT, by rw [e]; exact h⟩
theorem st_inS {c : Nat} {z : Str} {neg : Bool} (h : Q (.p (.bl (if neg then !decide (c ∈ z.cps.toList) else decide (c ∈ z.cps.toList)))) S) : dInS neg (.p (.str ⟨#[c]⟩)) (.p (.str z)) S Q := ⟨c, rfl, h⟩
theorem st_rtP {n : Nat} {p : P} (l : S.length = n) (h : Q (.p p) S) : (endsF n Q E).rt (.p p) S := by
  show Q (.p p) (S.take n)
  rw [List.take_of_length_le (by omega)]
  exact h
theorem st_nxF {n : Nat} (l : S.length = n) (h : Q (.p .non) S) : (endsF n Q E).nx r S := by
  show Q (.p .non) (S.take n)
  rw [List.take_of_length_le (by omega)]
  exact h
theorem st_rtC {n k : Nat} (l : S.length = n) (lk : k < n) (h : Q (.cell k) S) : (endsF n Q E).rt (.cell k) S := by
  show Q (.cell k) (if k < n then S.take n else S)
  rw [if_pos lk, List.take_of_length_le (by omega)]
  exact h
theorem st_rtN {n k : Nat} (lk : n ≤ k) (h : Q (.cell k) S) : (endsF n Q E).rt (.cell k) S := by
  show Q (.cell k) (if k < n then S.take n else S)
  rw [if_neg (by omega)]
  exact h
end
end RB
/-! The lifted layer: loops and comprehensions by what they keep. -/
namespace RB
open PySem PySem.Spec PyProof.Rows L2
theorem lcRun_pure {T : Tgt} {mt : WT} {me : WE} {r0 : Rho} {S : Store} {k : List P → Store → Prop} {t : D → Bool} {g : D → P} : ∀ {ds : List D} {acc : List P}, (∀ d ∈ ds, ∃ r, bindT T d r0 = some r ∧ (∀ QT E, QT (t d) S → mt r S QT E) ∧ (t d = true → ∀ Q E, Q (.p (g d)) S → me r S Q E)) → acc.length + ds.length ≤ sizeLine → k (acc ++ (ds.filter t).map g) S → lcRun T mt me r0 ds acc S k
  | [], acc, _, _, hk => by
    unfold lcRun
    simpa using hk
  | d :: ds, acc, h, l, hk => by
    unfold lcRun
    obtain ⟨r, e, ht, hm⟩ := h d (List.mem_cons_self ..)
    rw [e]
    refine ht _ _ ?_
    have l' : acc.length + (ds.length + 1) ≤ sizeLine := l
    cases c : t d with
    | true =>
      refine iteT (hm c _ _ ?_)
      refine ⟨by omega, ?_⟩
      refine lcRun_pure (fun x m => h x (List.mem_cons_of_mem _ m)) (by simp only [List.length_append, List.length_cons, List.length_nil]; omega) ?_
      rw [List.filter_cons, if_pos c, List.map_cons] at hk
      simpa using hk
    | false =>
      refine iteF ?_
      refine lcRun_pure (fun x m => h x (List.mem_cons_of_mem _ m)) (by omega) ?_
      rw [List.filter_cons, if_neg (by simp [c])] at hk
      exact hk
theorem lcRun_inv' {T : Tgt} {me : WE} {r0 : Rho} {k : List P → Store → Prop} {I : Nat → List P → Store → Prop} {n : Nat} : ∀ {ds : List D} {i : Nat} {acc : List P} {S : Store}, (∀ j d acc S (K : DK), ds[j]? = some d → I (i + j) acc S → ∃ r, bindT T d r0 = some r ∧ ((∀ p S2, I (i + j + 1) (acc ++ [p]) S2 → K (.p p) S2) → me r S K (fun _ _ => False))) → i + ds.length = n → (∀ acc S, I n acc S → k acc S) → I i acc S → acc.length + ds.length ≤ sizeLine → lcRun T wYes me r0 ds acc S k
  | [], i, acc, S, _, e, f, h, _ => by
    unfold lcRun
    have e' : i = n := e
    subst e'
    exact f _ _ h
  | d :: ds, i, acc, S, st, e, f, h, l => by
    unfold lcRun
    have l' : acc.length + (ds.length + 1) ≤ sizeLine := l
    have e' : i + (ds.length + 1) = n := e
    obtain ⟨r, q, hm⟩ := st 0 d acc S _ rfl h
    rw [q]
    refine st_yes ?_
    refine iteT (hm fun p S2 h2 => ?_)
    refine ⟨by omega, ?_⟩
    refine lcRun_inv' (i := i + 1) (fun j d acc S K hd hi => ?_) (by omega) f h2 (by simp only [List.length_append, List.length_cons, List.length_nil]; omega)
    have := st (j + 1) d acc S K (by simpa using hd) (by rw [show i + (j + 1) = i + 1 + j by omega]; exact hi)
    rw [show i + (j + 1) + 1 = i + 1 + j + 1 by omega] at this
    exact this
theorem lcRun_inv {T : Tgt} {me : WE} {r0 : Rho} {k : List P → Store → Prop} (I : Nat → List P → Store → Prop) {ds : List D} {S : Store} (st : ∀ j d acc S (K : DK), ds[j]? = some d → I j acc S → ∃ r, bindT T d r0 = some r ∧ ((∀ p S2, I (j + 1) (acc ++ [p]) S2 → K (.p p) S2) → me r S K (fun _ _ => False))) (h : I 0 [] S) (l : ds.length ≤ sizeLine) (f : ∀ acc S, I ds.length acc S → k acc S) : lcRun T wYes me r0 ds [] S k :=
  lcRun_inv' (i := 0) (fun j d acc S K hd hi => by rw [Nat.zero_add] at hi ⊢; exact st j d acc S K hd hi) (Nat.zero_add _) f h (by simpa using l)
theorem forRun_inv' {T : Tgt} {mb : WS} {D : DE} {I : Nat → Rho → Store → Prop} {n : Nat} : ∀ {ds : List RB.D} {i : Nat} {r : Rho} {S : Store}, (∀ j d r S (nx ct bk : Rho → Store → Prop), ds[j]? = some d → I (i + j) r S → (∀ r S, I (i + j + 1) r S → nx r S) → (∀ r S, I (i + j + 1) r S → ct r S) → (∀ r S, D.nx r S → bk r S) → ∃ r', bindT T d r = some r' ∧ mb ⟨nx, D.rt, bk, ct, D.xc⟩ r' S) → i + ds.length = n → (∀ r S, I n r S → D.nx r S) → I i r S → forRun T mb D ds r S
  | [], i, r, S, _, e, f, h => by
    unfold forRun
    have e' : i = n := e
    subst e'
    exact f _ _ h
  | d :: ds, i, r, S, st, e, f, h => by
    unfold forRun
    have e' : i + (ds.length + 1) = n := e
    have go : ∀ r S, I (i + 1) r S → forRun T mb D ds r S := fun r S h2 =>
      forRun_inv' (i := i + 1) (fun j d r S nx ct bk hd hi h1 h2 h3 => by
        have := st (j + 1) d r S nx ct bk (by simpa using hd) (by rw [show i + (j + 1) = i + 1 + j by omega]; exact hi) (by rw [show i + (j + 1) + 1 = i + 1 + j + 1 by omega]; exact h1) (by rw [show i + (j + 1) + 1 = i + 1 + j + 1 by omega]; exact h2) h3
        exact this) (by omega) f h2
    obtain ⟨r', q, hm⟩ := st 0 d r S (fun r S => forRun T mb D ds r S) (fun r S => forRun T mb D ds r S) D.nx rfl h go go (fun _ _ x => x)
    rw [q]
    exact hm
theorem forRun_inv {T : Tgt} {mb : WS} {D : DE} (I : Nat → Rho → Store → Prop) {ds : List RB.D} {r : Rho} {S : Store} (st : ∀ j d r S (nx ct bk : Rho → Store → Prop), ds[j]? = some d → I j r S → (∀ r S, I (j + 1) r S → nx r S) → (∀ r S, I (j + 1) r S → ct r S) → (∀ r S, D.nx r S → bk r S) → ∃ r', bindT T d r = some r' ∧ mb ⟨nx, D.rt, bk, ct, D.xc⟩ r' S) (h : I 0 r S) (f : ∀ r S, I ds.length r S → D.nx r S) : forRun T mb D ds r S :=
  forRun_inv' (i := 0) (fun j d r S nx ct bk hd hi h1 h2 h3 => by rw [Nat.zero_add] at hi h1 h2; exact st j d r S nx ct bk hd hi h1 h2 h3) (Nat.zero_add _) f h
theorem st_isiB {T t : String} {b : Bool} {d : D} {S : Store} {Q : DK} (hT : T ∈ ["bool", "int", "str", "tuple", "list", "dict"]) (e : tyS S d = some t) (eb : isB t T = b) (h : Q (.p (.bl b)) S) : dIsi d (.p (.ty T)) S Q := st_isi hT e (by rw [eb]; exact h)
theorem st_dok {ps : List P} {A : Prop} (l : ps.length ≤ sizeLine) (h : A) : ps.length ≤ sizeLine ∧ A := ⟨l, h⟩
theorem st_kvs {ks : List Key} {A : Prop} (n : ks.Nodup) (l : ks.length ≤ 15) (h : A) : ks.Nodup ∧ ks.length ≤ 15 ∧ A := ⟨n, l, h⟩
end RB
namespace RB
open PySem PySem.Spec PyProof.Rows L2
/-! ### the law's feed of numbers -/
structure Feed where
  cs : List Int
  at_ : Int
  left : Int
abbrev fk : List Key := [.inr (Str.ofString "cells"), .inr (Str.ofString "at"), .inr (Str.ofString "left")]
def feedC (f : Feed) : Cell := .dK fk [.lst (f.cs.map RB.P.int), .int f.at_, .int f.left]
structure FOk (f : Feed) : Prop where
  cs : f.cs.length ≤ 63
  at0 : 0 ≤ f.at_
  le0 : 0 ≤ f.left
abbrev LIM : Int := 1099511627776
structure Fed (c : Int) (f f' : Feed) : Prop where
  ok : FOk f'
  at_ : f'.at_ ≤ f.at_ + c
theorem Fed.trans {a b c : Int} {f g h : Feed} (x : Fed a f g) (y : Fed b g h) (e : a + b ≤ c) : Fed c f h := ⟨y.ok, by have := x.at_; have := y.at_; omega⟩
theorem Fed.le {a c : Int} {f g : Feed} (x : Fed a f g) (e : a ≤ c) : Fed c f g := ⟨x.ok, by have := x.at_; omega⟩
theorem k_ca : ¬ ((Sum.inr (Str.ofString "cells") : Key) = Sum.inr (Str.ofString "at")) := by decide +kernel
theorem k_cl : ¬ ((Sum.inr (Str.ofString "cells") : Key) = Sum.inr (Str.ofString "left")) := by decide +kernel
theorem k_al : ¬ ((Sum.inr (Str.ofString "at") : Key) = Sum.inr (Str.ofString "left")) := by decide +kernel
theorem k_ac : ¬ ((Sum.inr (Str.ofString "at") : Key) = Sum.inr (Str.ofString "cells")) := by decide +kernel
theorem k_lc : ¬ ((Sum.inr (Str.ofString "left") : Key) = Sum.inr (Str.ofString "cells")) := by decide +kernel
theorem k_la : ¬ ((Sum.inr (Str.ofString "left") : Key) = Sum.inr (Str.ofString "at")) := by decide +kernel
section
variable {f : Feed} {R : Store} {Q : DK}
theorem get_left : dDGet (.cell 0) (.p (.str (Str.ofString "left"))) (feedC f :: R) Q = Q (.p (.int f.left)) (feedC f :: R) := by
  simp only [dDGet, keyOf, feedC, List.getElem?_cons_zero, fk, klook, if_neg k_cl, if_neg k_al, if_true]
theorem get_at : dDGet (.cell 0) (.p (.str (Str.ofString "at"))) (feedC f :: R) Q = Q (.p (.int f.at_)) (feedC f :: R) := by
  simp only [dDGet, keyOf, feedC, List.getElem?_cons_zero, fk, klook, if_neg k_ca, if_true]
theorem get_cells : dDGet (.cell 0) (.p (.str (Str.ofString "cells"))) (feedC f :: R) Q = Q (.p (.lst (f.cs.map RB.P.int))) (feedC f :: R) := by
  simp only [dDGet, keyOf, feedC, List.getElem?_cons_zero, fk, klook, if_true]
theorem put_left {v : Int} {K : Store → Prop} : dDPut (.cell 0) (.p (.str (Str.ofString "left"))) (.p (.int v)) (feedC f :: R) K = K (feedC { f with left := v } :: R) := by
  have h3 : 3 < sizeLine := by decide
  simp only [dDPut, keyOf, feedC, List.getElem?_cons_zero, fk, List.any_cons, decide_eq_false k_cl, decide_eq_false k_al, decide_true, Bool.false_or, Bool.true_or, Bool.or_true, if_true, kset, if_neg k_cl, if_neg k_al, List.set_cons_zero, List.length_cons, List.length_nil, Nat.zero_add, Nat.reduceAdd, h3, true_and]
theorem put_at {v : Int} {K : Store → Prop} : dDPut (.cell 0) (.p (.str (Str.ofString "at"))) (.p (.int v)) (feedC f :: R) K = K (feedC { f with at_ := v } :: R) := by
  have h3 : 3 < sizeLine := by decide
  simp only [dDPut, keyOf, feedC, List.getElem?_cons_zero, fk, List.any_cons, decide_eq_false k_ca, decide_eq_false k_la, decide_true, Bool.false_or, Bool.true_or, Bool.or_true, if_true, kset, if_neg k_ca, if_neg k_la, List.set_cons_zero, List.length_cons, List.length_nil, Nat.zero_add, Nat.reduceAdd, h3, true_and]
end
theorem st_getL {f : Feed} {R : Store} {Q : DK} (h : Q (.p (.int f.left)) (feedC f :: R)) : dDGet (.cell 0) (.p (.str (Str.ofString "left"))) (feedC f :: R) Q := by
  rw [get_left]
  exact h
theorem st_getA {f : Feed} {R : Store} {Q : DK} (h : Q (.p (.int f.at_)) (feedC f :: R)) : dDGet (.cell 0) (.p (.str (Str.ofString "at"))) (feedC f :: R) Q := by
  rw [get_at]
  exact h
theorem st_getC {f : Feed} {R : Store} {Q : DK} (h : Q (.p (.lst (f.cs.map RB.P.int))) (feedC f :: R)) : dDGet (.cell 0) (.p (.str (Str.ofString "cells"))) (feedC f :: R) Q := by
  rw [get_cells]
  exact h
theorem st_putL {f : Feed} {R : Store} {v : Int} {K : Store → Prop} (h : K (feedC { f with left := v } :: R)) : dDPut (.cell 0) (.p (.str (Str.ofString "left"))) (.p (.int v)) (feedC f :: R) K := by
  rw [put_left]
  exact h
theorem st_putA {f : Feed} {R : Store} {v : Int} {K : Store → Prop} (h : K (feedC { f with at_ := v } :: R)) : dDPut (.cell 0) (.p (.str (Str.ofString "at"))) (.p (.int v)) (feedC f :: R) K := by
  rw [put_at]
  exact h
/-- what lies at a place, when all is numbers -/
theorem atI_ints {ns : List Int} {j : Int} (h0 : 0 ≤ j) (h1 : j < ns.length) : ∃ c, atI (ns.map RB.P.int) j = some (RB.P.int c) := by
  obtain ⟨k, rfl⟩ := Int.eq_ofNat_of_zero_le h0
  have hk : k < ns.length := by omega
  exact ⟨ns[k], atI_nat (by rw [List.getElem?_map, List.getElem?_eq_getElem hk]; rfl)⟩
theorem pds_ints : ∀ ns : List Int, pds (ns.map RB.P.int) = some (ns.map PyData.int)
  | [] => rfl
  | n :: ns => by
    show pds (RB.P.int n :: ns.map RB.P.int) = _
    rw [pds, pds_ints ns]
    rfl
/-- the feed is made -/
def sp__law_feed : DSp := fun ds S Q _ => ∃ ns : List Int, ds = [.p (.scr (ns.map RB.P.int))] ∧ S = [] ∧ ns.length ≤ 63 ∧ ∀ f, FOk f → f.at_ = 0 → Q (.cell 0) [feedC f]
theorem mon__law_feed : DMon sp__law_feed := fun ds S Q Q' E E' hq he ⟨ns, h1, h2, h3, h⟩ => ⟨ns, h1, h2, h3, fun f a b => hq _ _ (h f a b)⟩
theorem len__law_feed : ∀ ds S Q E, sp__law_feed ds S Q E → ds.length = 1 := fun ds S Q E ⟨ns, h1, _⟩ => by rw [h1]; rfl
abbrev N__law_feed : List Str := [(Str.ofString "_law_script")]
abbrev ps__law_feed : List Str := [(Str.ofString "_law_script")]
abbrev w__law_feed : WS :=
  (wRet (wDictC [((wC (.p (.str (Str.ofString "cells")))), (wCB (b1 dListOf) (wCons (wSl (wVar 0) wNoP (wPart (wC (.p (.int 63))))) wNil))), ((wC (.p (.str (Str.ofString "at")))), (wC (.p (.int 0)))), ((wC (.p (.str (Str.ofString "left")))), (wC (.p (.int 0))))]))

theorem pur__law_feed : ∀ ds S Q E, sp__law_feed ds S Q E → w__law_feed (endsF S.length Q E) (startR N__law_feed ds) S := by
  rintro ds S Q E ⟨ns, rfl, rfl, hl, h⟩
  have e : startR N__law_feed [.p (.scr (ns.map RB.P.int))] = [some (.p (.scr (ns.map RB.P.int)))] := rfl
  rw [e]
  have key : ((ns.map RB.P.int).drop 0).take (HT.sIx (ns.map RB.P.int).length (ns.map RB.P.int).length (some 63) - 0) = ns.map RB.P.int := by
    rw [List.drop_zero, Nat.sub_zero]
    apply List.take_of_length_le
    show (ns.map RB.P.int).length ≤ HT.sIx _ _ (some ((63 : Nat) : Int))
    rw [HT.sIx_nat, List.length_map]
    omega
  simp only [w__law_feed, wRet, wDict, wPairs, wC, wCB, wCons, wNil, wSl, wVar, wNoP, wPart, List.getElem?_cons_zero, dSl, asL, b1, dQ1, asQ, kvsOf, keyOf, HT.sIx_none, key]
  refine ⟨?_, by simp, ?_⟩
  · simp only [List.nodup_cons, List.mem_cons, List.not_mem_nil, or_false, not_or, not_false_eq_true, List.nodup_nil, and_true]
    exact ⟨⟨k_ca, k_cl⟩, k_al⟩
  · exact h ⟨ns, 0, 0⟩ ⟨hl, Int.le_refl _, Int.le_refl _⟩ rfl
/-- a number below many -/
def sp__law_draw : DSp := fun ds S Q _ => ∃ (many : Int) (f : Feed) (R : Store), ds = [.cell 0, .p (.int many)] ∧ S = feedC f :: R ∧ FOk f ∧ f.at_ + 1 ≤ LIM ∧ 0 < many ∧ many < 2 ^ 64 ∧ ∀ d f', 0 ≤ d → d < many → Fed 1 f f' → Q (.p (.int d)) (feedC f' :: R)
theorem mon__law_draw : DMon sp__law_draw := fun ds S Q Q' E E' hq he ⟨m, f, R, h1, h2, h3, h4, h5, h6, h⟩ => ⟨m, f, R, h1, h2, h3, h4, h5, h6, fun d f' a b c => hq _ _ (h d f' a b c)⟩
theorem len__law_draw : ∀ ds S Q E, sp__law_draw ds S Q E → ds.length = 2 := fun ds S Q E ⟨_, _, _, h1, _⟩ => by rw [h1]; rfl
abbrev N__law_draw : List Str := [(Str.ofString "_law_feed_here"), (Str.ofString "_law_many"), (Str.ofString "_law_at"), (Str.ofString "_law_cell"), (Str.ofString "_law_primes"), (Str.ofString "_law_prime"), (Str.ofString "_law_mixed"), (Str.ofString "_law_digit")]
abbrev ps__law_draw : List Str := [(Str.ofString "_law_feed_here"), (Str.ofString "_law_many")]
abbrev w__law_draw_1 : WS := wRet (wVar 7)
abbrev w__law_draw_2 : WS := wSeq (wDPut (wVar 0) (wC (.p (.str (Str.ofString "left")))) (wBin dFdiv (wBin dDGet (wVar 0) (wC (.p (.str (Str.ofString "left"))))) (wVar 1))) w__law_draw_1
abbrev w__law_draw_3 : WS := wSeq (wSet 7 (wBin dMod (wCB (b1 dToInt) (wCons (wBin dDGet (wVar 0) (wC (.p (.str (Str.ofString "left"))))) wNil)) (wVar 1))) w__law_draw_2
abbrev w__law_draw_4 : WS := wRet (wBin dMod (wBin dSub (wCB (b1 dAbs) (wCons (wVar 3) wNil)) (wBin dPow (wC (.p (.int 10))) (wC (.p (.int 18))))) (wVar 1))
abbrev w__law_draw_5 : WS := wSeq (wDPut (wVar 0) (wC (.p (.str (Str.ofString "left")))) (wBin dFdiv (wBin dSub (wCB (b1 dAbs) (wCons (wVar 3) wNil)) (wBin dPow (wC (.p (.int 10))) (wC (.p (.int 18))))) (wVar 1))) w__law_draw_4
abbrev w__law_draw_6 : WS := wRet (wBin dMod (wCB (b1 dToInt) (wCons (wBin dFdiv (wBin dMod (wCB (b1 dToInt) (wCons (wBin dMul (wVar 6) (wVar 6)) wNil)) (wC (.p (.int 2147483549)))) (wC (.p (.int 64)))) wNil)) (wVar 1))
abbrev w__law_draw_7 : WS := wSeq (wSet 6 (wBin dMod (wCB (b1 dToInt) (wCons (wBin dMul (wVar 6) (wBin dAdd (wVar 6) (wC (.p (.int 16807))))) wNil)) (wBin dIx (wVar 4) (wBin dMod (wCB (b1 dToInt) (wCons (wBin dAdd (wVar 2) (wC (.p (.int 2)))) wNil)) (wC (.p (.int 5))))))) w__law_draw_6
abbrev w__law_draw_8 : WS := wSeq (wSet 6 (wBin dMod (wCB (b1 dToInt) (wCons (wBin dAdd (wBin dAdd (wBin dAdd (wBin dMul (wBin dMod (wCB (b1 dToInt) (wCons (wVar 3) wNil)) (wVar 5)) (wC (.p (.int 48271)))) (wBin dMul (wBin dMul (wC (.p (.int 40699))) (wVar 2)) (wVar 2))) (wBin dMul (wC (.p (.int 69621))) (wVar 2))) (wC (.p (.int 7)))) wNil)) (wVar 5))) w__law_draw_7
abbrev w__law_draw_9 : WS := wSeq (wSet 5 (wBin dIx (wVar 4) (wBin dMod (wCB (b1 dToInt) (wCons (wVar 2) wNil)) (wC (.p (.int 5)))))) w__law_draw_8
abbrev w__law_draw_10 : WS := wSeq (wSet 4 (wDisp .lst (wCons (wC (.p (.int 2147483629))) (wCons (wC (.p (.int 2147483647))) (wCons (wC (.p (.int 2147483587))) (wCons (wC (.p (.int 2147483563))) (wCons (wC (.p (.int 2147483579))) wNil))))))) w__law_draw_9
abbrev w__law_draw_11 : WS := wSeq (wIfS (wAnd (wTest (wBin dLt (wVar 2) (wCB (b1 dLen) (wCons (wBin dDGet (wVar 0) (wC (.p (.str (Str.ofString "cells"))))) wNil)))) (wTest (wBin dGe (wCB (b1 dAbs) (wCons (wVar 3) wNil)) (wBin dPow (wC (.p (.int 10))) (wC (.p (.int 18))))))) w__law_draw_5 wNext) w__law_draw_10
abbrev w__law_draw_12 : WS := wSeq (wIfS (wTest (wBin (dEqv true) (wBin dDGet (wVar 0) (wC (.p (.str (Str.ofString "cells"))))) (wDisp .lst wNil))) (wSet 3 (wBin dIx (wBin dDGet (wVar 0) (wC (.p (.str (Str.ofString "cells"))))) (wBin dMod (wCB (b1 dToInt) (wCons (wVar 2) wNil)) (wCB (b1 dLen) (wCons (wBin dDGet (wVar 0) (wC (.p (.str (Str.ofString "cells"))))) wNil))))) wNext) w__law_draw_11
abbrev w__law_draw_13 : WS := wSeq (wSet 3 (wBin dAdd (wBin dMul (wC (.p (.int 37))) (wVar 2)) (wC (.p (.int 11))))) w__law_draw_12
abbrev w__law_draw_14 : WS := wSeq (wDPut (wVar 0) (wC (.p (.str (Str.ofString "at")))) (wBin dAdd (wVar 2) (wC (.p (.int 1))))) w__law_draw_13
abbrev w__law_draw_15 : WS := wSeq (wSet 2 (wBin dDGet (wVar 0) (wC (.p (.str (Str.ofString "at")))))) w__law_draw_14
abbrev w__law_draw_16 : WS := wSeq (wIfS (wTest (wBin dGt (wBin dDGet (wVar 0) (wC (.p (.str (Str.ofString "left"))))) (wC (.p (.int 0))))) w__law_draw_3 wNext) w__law_draw_15
abbrev w__law_draw : WS :=
  w__law_draw_16

theorem eqv_ints_nil (ns : List Int) : PyData.eqv (.list (ns.map PyData.int)) (.list []) = decide (ns = []) := by
  cases ns <;> simp [PyData.eqv, PyData.eqvAll]
theorem atI_primes {x : Int} (h0 : 0 ≤ x) (h1 : x < 5) : ∃ p : Int, atI [RB.P.int 2147483629, .int 2147483647, .int 2147483587, .int 2147483563, .int 2147483579] x = some (.int p) ∧ 0 < p ∧ p < 2147483648 := by
  have q : x = 0 ∨ x = 1 ∨ x = 2 ∨ x = 3 ∨ x = 4 := by omega
  rcases q with rfl | rfl | rfl | rfl | rfl
  · exact ⟨_, rfl, by decide, by decide⟩
  · exact ⟨_, rfl, by decide, by decide⟩
  · exact ⟨_, rfl, by decide, by decide⟩
  · exact ⟨_, rfl, by decide, by decide⟩
  · exact ⟨_, rfl, by decide, by decide⟩
theorem pur__law_draw : ∀ ds S Q E, sp__law_draw ds S Q E → w__law_draw (endsF S.length Q E) (startR N__law_draw ds) S := by
  rintro ds S Q E ⟨many, f, R, rfl, rfl, ok, hat, hm0, hm1, h⟩
  have e : startR N__law_draw [.cell 0, .p (.int many)] = [some (.cell 0), some (.p (.int many)), none, none, none, none, none, none] := rfl
  rw [e]
  have hdv : ∀ x, CDivW x many := fun x => wide_div hm0 (b := 64) (by omega) (by decide) (by decide)
  have a0 := ok.at0
  have hat2 : f.at_ + 1 ≤ 1099511627776 := hat
  have hpow : CPow 10 18 := by
    unfold CPow
    decide
  repeat (first | with_reducible refine st_var (by with_unfolding_all exact rfl) ?_ | with_reducible refine st_seq ?_ | with_reducible refine st_set ?_ | with_reducible refine st_bin ?_ | with_reducible refine st_c ?_ | with_reducible refine st_cb ?_ | with_reducible refine st_cons ?_ | with_reducible refine st_nil ?_ | with_reducible refine st_b1 ?_ | with_reducible refine st_b2 ?_ | with_reducible refine st_test ?_ | with_reducible refine st_ifS ?_ | with_reducible refine st_ret ?_ | with_reducible refine st_retN ?_ | with_reducible refine st_drop ?_ | with_reducible refine st_next ?_ | with_reducible refine st_un ?_ | with_reducible refine st_call ?_ | with_reducible refine st_callK ?_ | with_reducible refine st_and ?_ | with_reducible refine st_or ?_ | with_reducible refine st_not ?_ | with_reducible refine st_yes ?_ | with_reducible refine st_andV ?_ | with_reducible refine st_orV ?_ | with_reducible refine st_notV ?_ | with_reducible refine st_if ?_ | with_reducible refine st_chain ?_ | with_reducible refine st_disp ?_ | with_reducible refine st_newL ?_ | with_reducible refine st_sl ?_ | with_reducible refine st_noP ?_ | with_reducible refine st_part ?_ | with_reducible refine st_dput ?_ | with_reducible refine st_join ?_ | with_reducible refine st_lc ?_ | with_reducible refine st_rng ?_ | with_reducible refine st_it ?_ | with_reducible refine st_for ?_ | with_reducible refine st_isi2 ?_ | with_reducible refine st_dnew ?_ | with_reducible refine st_dict ?_ | with_reducible refine st_pcons ?_ | with_reducible refine st_pnil ?_ | with_reducible refine st_addI ?_ | with_reducible refine st_i0 ?_ | with_reducible refine st_toInt ?_ | with_reducible refine st_i1 ?_ | with_reducible refine st_neg ?_ | with_reducible refine st_lenL ?_ | with_reducible refine st_lenT ?_ | with_reducible refine st_lenC ?_ | with_reducible refine st_lstL ?_ | with_reducible refine st_lstT ?_ | with_reducible refine st_tupL ?_ | with_reducible refine st_tupT ?_ | with_reducible refine st_reprB ?_ | with_reducible refine st_inS ?_ | with_reducible refine st_getL ?_ | with_reducible refine st_getA ?_ | with_reducible refine st_getC ?_ | with_reducible refine st_putL ?_ | with_reducible refine st_putA ?_ | refine st_dok (by exact Nat.le_of_ble_eq_true rfl) ?_ | refine st_kvs (by decide +kernel) (by decide) ?_)
  refine st_ite (fun c => ?_) (fun c => ?_)
  · repeat (first | with_reducible refine st_var (by with_unfolding_all exact rfl) ?_ | with_reducible refine st_seq ?_ | with_reducible refine st_set ?_ | with_reducible refine st_bin ?_ | with_reducible refine st_c ?_ | with_reducible refine st_cb ?_ | with_reducible refine st_cons ?_ | with_reducible refine st_nil ?_ | with_reducible refine st_b1 ?_ | with_reducible refine st_b2 ?_ | with_reducible refine st_test ?_ | with_reducible refine st_ifS ?_ | with_reducible refine st_ret ?_ | with_reducible refine st_retN ?_ | with_reducible refine st_drop ?_ | with_reducible refine st_next ?_ | with_reducible refine st_un ?_ | with_reducible refine st_call ?_ | with_reducible refine st_callK ?_ | with_reducible refine st_and ?_ | with_reducible refine st_or ?_ | with_reducible refine st_not ?_ | with_reducible refine st_yes ?_ | with_reducible refine st_andV ?_ | with_reducible refine st_orV ?_ | with_reducible refine st_notV ?_ | with_reducible refine st_if ?_ | with_reducible refine st_chain ?_ | with_reducible refine st_disp ?_ | with_reducible refine st_newL ?_ | with_reducible refine st_sl ?_ | with_reducible refine st_noP ?_ | with_reducible refine st_part ?_ | with_reducible refine st_dput ?_ | with_reducible refine st_join ?_ | with_reducible refine st_lc ?_ | with_reducible refine st_rng ?_ | with_reducible refine st_it ?_ | with_reducible refine st_for ?_ | with_reducible refine st_isi2 ?_ | with_reducible refine st_dnew ?_ | with_reducible refine st_dict ?_ | with_reducible refine st_pcons ?_ | with_reducible refine st_pnil ?_ | with_reducible refine st_addI ?_ | with_reducible refine st_i0 ?_ | with_reducible refine st_toInt ?_ | with_reducible refine st_i1 ?_ | with_reducible refine st_neg ?_ | with_reducible refine st_lenL ?_ | with_reducible refine st_lenT ?_ | with_reducible refine st_lenC ?_ | with_reducible refine st_lstL ?_ | with_reducible refine st_lstT ?_ | with_reducible refine st_tupL ?_ | with_reducible refine st_tupT ?_ | with_reducible refine st_reprB ?_ | with_reducible refine st_inS ?_ | with_reducible refine st_getL ?_ | with_reducible refine st_getA ?_ | with_reducible refine st_getC ?_ | with_reducible refine st_putL ?_ | with_reducible refine st_putA ?_ | refine st_dok (by exact Nat.le_of_ble_eq_true rfl) ?_ | refine st_kvs (by decide +kernel) (by decide) ?_)
    refine st_i hm0 ?_
    repeat (first | with_reducible refine st_var (by with_unfolding_all exact rfl) ?_ | with_reducible refine st_seq ?_ | with_reducible refine st_set ?_ | with_reducible refine st_bin ?_ | with_reducible refine st_c ?_ | with_reducible refine st_cb ?_ | with_reducible refine st_cons ?_ | with_reducible refine st_nil ?_ | with_reducible refine st_b1 ?_ | with_reducible refine st_b2 ?_ | with_reducible refine st_test ?_ | with_reducible refine st_ifS ?_ | with_reducible refine st_ret ?_ | with_reducible refine st_retN ?_ | with_reducible refine st_drop ?_ | with_reducible refine st_next ?_ | with_reducible refine st_un ?_ | with_reducible refine st_call ?_ | with_reducible refine st_callK ?_ | with_reducible refine st_and ?_ | with_reducible refine st_or ?_ | with_reducible refine st_not ?_ | with_reducible refine st_yes ?_ | with_reducible refine st_andV ?_ | with_reducible refine st_orV ?_ | with_reducible refine st_notV ?_ | with_reducible refine st_if ?_ | with_reducible refine st_chain ?_ | with_reducible refine st_disp ?_ | with_reducible refine st_newL ?_ | with_reducible refine st_sl ?_ | with_reducible refine st_noP ?_ | with_reducible refine st_part ?_ | with_reducible refine st_dput ?_ | with_reducible refine st_join ?_ | with_reducible refine st_lc ?_ | with_reducible refine st_rng ?_ | with_reducible refine st_it ?_ | with_reducible refine st_for ?_ | with_reducible refine st_isi2 ?_ | with_reducible refine st_dnew ?_ | with_reducible refine st_dict ?_ | with_reducible refine st_pcons ?_ | with_reducible refine st_pnil ?_ | with_reducible refine st_addI ?_ | with_reducible refine st_i0 ?_ | with_reducible refine st_toInt ?_ | with_reducible refine st_i1 ?_ | with_reducible refine st_neg ?_ | with_reducible refine st_lenL ?_ | with_reducible refine st_lenT ?_ | with_reducible refine st_lenC ?_ | with_reducible refine st_lstL ?_ | with_reducible refine st_lstT ?_ | with_reducible refine st_tupL ?_ | with_reducible refine st_tupT ?_ | with_reducible refine st_reprB ?_ | with_reducible refine st_inS ?_ | with_reducible refine st_getL ?_ | with_reducible refine st_getA ?_ | with_reducible refine st_getC ?_ | with_reducible refine st_putL ?_ | with_reducible refine st_putA ?_ | refine st_dok (by exact Nat.le_of_ble_eq_true rfl) ?_ | refine st_kvs (by decide +kernel) (by decide) ?_)
    refine st_i (hdv _) ?_
    repeat (first | with_reducible refine st_var (by with_unfolding_all exact rfl) ?_ | with_reducible refine st_seq ?_ | with_reducible refine st_set ?_ | with_reducible refine st_bin ?_ | with_reducible refine st_c ?_ | with_reducible refine st_cb ?_ | with_reducible refine st_cons ?_ | with_reducible refine st_nil ?_ | with_reducible refine st_b1 ?_ | with_reducible refine st_b2 ?_ | with_reducible refine st_test ?_ | with_reducible refine st_ifS ?_ | with_reducible refine st_ret ?_ | with_reducible refine st_retN ?_ | with_reducible refine st_drop ?_ | with_reducible refine st_next ?_ | with_reducible refine st_un ?_ | with_reducible refine st_call ?_ | with_reducible refine st_callK ?_ | with_reducible refine st_and ?_ | with_reducible refine st_or ?_ | with_reducible refine st_not ?_ | with_reducible refine st_yes ?_ | with_reducible refine st_andV ?_ | with_reducible refine st_orV ?_ | with_reducible refine st_notV ?_ | with_reducible refine st_if ?_ | with_reducible refine st_chain ?_ | with_reducible refine st_disp ?_ | with_reducible refine st_newL ?_ | with_reducible refine st_sl ?_ | with_reducible refine st_noP ?_ | with_reducible refine st_part ?_ | with_reducible refine st_dput ?_ | with_reducible refine st_join ?_ | with_reducible refine st_lc ?_ | with_reducible refine st_rng ?_ | with_reducible refine st_it ?_ | with_reducible refine st_for ?_ | with_reducible refine st_isi2 ?_ | with_reducible refine st_dnew ?_ | with_reducible refine st_dict ?_ | with_reducible refine st_pcons ?_ | with_reducible refine st_pnil ?_ | with_reducible refine st_addI ?_ | with_reducible refine st_i0 ?_ | with_reducible refine st_toInt ?_ | with_reducible refine st_i1 ?_ | with_reducible refine st_neg ?_ | with_reducible refine st_lenL ?_ | with_reducible refine st_lenT ?_ | with_reducible refine st_lenC ?_ | with_reducible refine st_lstL ?_ | with_reducible refine st_lstT ?_ | with_reducible refine st_tupL ?_ | with_reducible refine st_tupT ?_ | with_reducible refine st_reprB ?_ | with_reducible refine st_inS ?_ | with_reducible refine st_getL ?_ | with_reducible refine st_getA ?_ | with_reducible refine st_getC ?_ | with_reducible refine st_putL ?_ | with_reducible refine st_putA ?_ | refine st_dok (by exact Nat.le_of_ble_eq_true rfl) ?_ | refine st_kvs (by decide +kernel) (by decide) ?_)
    refine st_rtP rfl (h _ _ (Int.emod_nonneg _ (by omega)) (Int.emod_lt_of_pos _ hm0) ⟨⟨ok.cs, ok.at0, ?_⟩, ?_⟩)
    · exact Int.ediv_nonneg ok.le0 (by omega)
    · show f.at_ ≤ f.at_ + 1
      omega
  · repeat (first | with_reducible refine st_var (by with_unfolding_all exact rfl) ?_ | with_reducible refine st_seq ?_ | with_reducible refine st_set ?_ | with_reducible refine st_bin ?_ | with_reducible refine st_c ?_ | with_reducible refine st_cb ?_ | with_reducible refine st_cons ?_ | with_reducible refine st_nil ?_ | with_reducible refine st_b1 ?_ | with_reducible refine st_b2 ?_ | with_reducible refine st_test ?_ | with_reducible refine st_ifS ?_ | with_reducible refine st_ret ?_ | with_reducible refine st_retN ?_ | with_reducible refine st_drop ?_ | with_reducible refine st_next ?_ | with_reducible refine st_un ?_ | with_reducible refine st_call ?_ | with_reducible refine st_callK ?_ | with_reducible refine st_and ?_ | with_reducible refine st_or ?_ | with_reducible refine st_not ?_ | with_reducible refine st_yes ?_ | with_reducible refine st_andV ?_ | with_reducible refine st_orV ?_ | with_reducible refine st_notV ?_ | with_reducible refine st_if ?_ | with_reducible refine st_chain ?_ | with_reducible refine st_disp ?_ | with_reducible refine st_newL ?_ | with_reducible refine st_sl ?_ | with_reducible refine st_noP ?_ | with_reducible refine st_part ?_ | with_reducible refine st_dput ?_ | with_reducible refine st_join ?_ | with_reducible refine st_lc ?_ | with_reducible refine st_rng ?_ | with_reducible refine st_it ?_ | with_reducible refine st_for ?_ | with_reducible refine st_isi2 ?_ | with_reducible refine st_dnew ?_ | with_reducible refine st_dict ?_ | with_reducible refine st_pcons ?_ | with_reducible refine st_pnil ?_ | with_reducible refine st_addI ?_ | with_reducible refine st_i0 ?_ | with_reducible refine st_toInt ?_ | with_reducible refine st_i1 ?_ | with_reducible refine st_neg ?_ | with_reducible refine st_lenL ?_ | with_reducible refine st_lenT ?_ | with_reducible refine st_lenC ?_ | with_reducible refine st_lstL ?_ | with_reducible refine st_lstT ?_ | with_reducible refine st_tupL ?_ | with_reducible refine st_tupT ?_ | with_reducible refine st_reprB ?_ | with_reducible refine st_inS ?_ | with_reducible refine st_getL ?_ | with_reducible refine st_getA ?_ | with_reducible refine st_getC ?_ | with_reducible refine st_putL ?_ | with_reducible refine st_putA ?_ | refine st_dok (by exact Nat.le_of_ble_eq_true rfl) ?_ | refine st_kvs (by decide +kernel) (by decide) ?_)
    refine st_mul (.inl (.inl ⟨by decide, by decide⟩)) ?_
    have tail : ∀ v : Int, w__law_draw_11 (endsF (feedC f :: R).length Q E) [some (.cell 0), some (.p (.int many)), some (.p (.int f.at_)), some (.p (.int v)), none, none, none, none] (feedC { f with at_ := f.at_ + 1 } :: R) := by
      intro v
      have fin : w__law_draw_10 (endsF (feedC f :: R).length Q E) [some (.cell 0), some (.p (.int many)), some (.p (.int f.at_)), some (.p (.int v)), none, none, none, none] (feedC { f with at_ := f.at_ + 1 } :: R) := by
        repeat (first | with_reducible refine st_var (by with_unfolding_all exact rfl) ?_ | with_reducible refine st_seq ?_ | with_reducible refine st_set ?_ | with_reducible refine st_bin ?_ | with_reducible refine st_c ?_ | with_reducible refine st_cb ?_ | with_reducible refine st_cons ?_ | with_reducible refine st_nil ?_ | with_reducible refine st_b1 ?_ | with_reducible refine st_b2 ?_ | with_reducible refine st_test ?_ | with_reducible refine st_ifS ?_ | with_reducible refine st_ret ?_ | with_reducible refine st_retN ?_ | with_reducible refine st_drop ?_ | with_reducible refine st_next ?_ | with_reducible refine st_un ?_ | with_reducible refine st_call ?_ | with_reducible refine st_callK ?_ | with_reducible refine st_and ?_ | with_reducible refine st_or ?_ | with_reducible refine st_not ?_ | with_reducible refine st_yes ?_ | with_reducible refine st_andV ?_ | with_reducible refine st_orV ?_ | with_reducible refine st_notV ?_ | with_reducible refine st_if ?_ | with_reducible refine st_chain ?_ | with_reducible refine st_disp ?_ | with_reducible refine st_newL ?_ | with_reducible refine st_sl ?_ | with_reducible refine st_noP ?_ | with_reducible refine st_part ?_ | with_reducible refine st_dput ?_ | with_reducible refine st_join ?_ | with_reducible refine st_lc ?_ | with_reducible refine st_rng ?_ | with_reducible refine st_it ?_ | with_reducible refine st_for ?_ | with_reducible refine st_isi2 ?_ | with_reducible refine st_dnew ?_ | with_reducible refine st_dict ?_ | with_reducible refine st_pcons ?_ | with_reducible refine st_pnil ?_ | with_reducible refine st_addI ?_ | with_reducible refine st_i0 ?_ | with_reducible refine st_toInt ?_ | with_reducible refine st_i1 ?_ | with_reducible refine st_neg ?_ | with_reducible refine st_lenL ?_ | with_reducible refine st_lenT ?_ | with_reducible refine st_lenC ?_ | with_reducible refine st_lstL ?_ | with_reducible refine st_lstT ?_ | with_reducible refine st_tupL ?_ | with_reducible refine st_tupT ?_ | with_reducible refine st_reprB ?_ | with_reducible refine st_inS ?_ | with_reducible refine st_getL ?_ | with_reducible refine st_getA ?_ | with_reducible refine st_getC ?_ | with_reducible refine st_putL ?_ | with_reducible refine st_putA ?_ | refine st_dok (by exact Nat.le_of_ble_eq_true rfl) ?_ | refine st_kvs (by decide +kernel) (by decide) ?_)
        refine st_i (by decide) ?_
        obtain ⟨p1, e1, p1a, p1b⟩ := atI_primes (Int.emod_nonneg f.at_ (by decide)) (Int.emod_lt_of_pos f.at_ (b := 5) (by decide))
        refine st_ixL e1 ?_
        repeat (first | with_reducible refine st_var (by with_unfolding_all exact rfl) ?_ | with_reducible refine st_seq ?_ | with_reducible refine st_set ?_ | with_reducible refine st_bin ?_ | with_reducible refine st_c ?_ | with_reducible refine st_cb ?_ | with_reducible refine st_cons ?_ | with_reducible refine st_nil ?_ | with_reducible refine st_b1 ?_ | with_reducible refine st_b2 ?_ | with_reducible refine st_test ?_ | with_reducible refine st_ifS ?_ | with_reducible refine st_ret ?_ | with_reducible refine st_retN ?_ | with_reducible refine st_drop ?_ | with_reducible refine st_next ?_ | with_reducible refine st_un ?_ | with_reducible refine st_call ?_ | with_reducible refine st_callK ?_ | with_reducible refine st_and ?_ | with_reducible refine st_or ?_ | with_reducible refine st_not ?_ | with_reducible refine st_yes ?_ | with_reducible refine st_andV ?_ | with_reducible refine st_orV ?_ | with_reducible refine st_notV ?_ | with_reducible refine st_if ?_ | with_reducible refine st_chain ?_ | with_reducible refine st_disp ?_ | with_reducible refine st_newL ?_ | with_reducible refine st_sl ?_ | with_reducible refine st_noP ?_ | with_reducible refine st_part ?_ | with_reducible refine st_dput ?_ | with_reducible refine st_join ?_ | with_reducible refine st_lc ?_ | with_reducible refine st_rng ?_ | with_reducible refine st_it ?_ | with_reducible refine st_for ?_ | with_reducible refine st_isi2 ?_ | with_reducible refine st_dnew ?_ | with_reducible refine st_dict ?_ | with_reducible refine st_pcons ?_ | with_reducible refine st_pnil ?_ | with_reducible refine st_addI ?_ | with_reducible refine st_i0 ?_ | with_reducible refine st_toInt ?_ | with_reducible refine st_i1 ?_ | with_reducible refine st_neg ?_ | with_reducible refine st_lenL ?_ | with_reducible refine st_lenT ?_ | with_reducible refine st_lenC ?_ | with_reducible refine st_lstL ?_ | with_reducible refine st_lstT ?_ | with_reducible refine st_tupL ?_ | with_reducible refine st_tupT ?_ | with_reducible refine st_reprB ?_ | with_reducible refine st_inS ?_ | with_reducible refine st_getL ?_ | with_reducible refine st_getA ?_ | with_reducible refine st_getC ?_ | with_reducible refine st_putL ?_ | with_reducible refine st_putA ?_ | refine st_dok (by exact Nat.le_of_ble_eq_true rfl) ?_ | refine st_kvs (by decide +kernel) (by decide) ?_)
        refine st_i p1a ?_
        repeat (first | with_reducible refine st_var (by with_unfolding_all exact rfl) ?_ | with_reducible refine st_seq ?_ | with_reducible refine st_set ?_ | with_reducible refine st_bin ?_ | with_reducible refine st_c ?_ | with_reducible refine st_cb ?_ | with_reducible refine st_cons ?_ | with_reducible refine st_nil ?_ | with_reducible refine st_b1 ?_ | with_reducible refine st_b2 ?_ | with_reducible refine st_test ?_ | with_reducible refine st_ifS ?_ | with_reducible refine st_ret ?_ | with_reducible refine st_retN ?_ | with_reducible refine st_drop ?_ | with_reducible refine st_next ?_ | with_reducible refine st_un ?_ | with_reducible refine st_call ?_ | with_reducible refine st_callK ?_ | with_reducible refine st_and ?_ | with_reducible refine st_or ?_ | with_reducible refine st_not ?_ | with_reducible refine st_yes ?_ | with_reducible refine st_andV ?_ | with_reducible refine st_orV ?_ | with_reducible refine st_notV ?_ | with_reducible refine st_if ?_ | with_reducible refine st_chain ?_ | with_reducible refine st_disp ?_ | with_reducible refine st_newL ?_ | with_reducible refine st_sl ?_ | with_reducible refine st_noP ?_ | with_reducible refine st_part ?_ | with_reducible refine st_dput ?_ | with_reducible refine st_join ?_ | with_reducible refine st_lc ?_ | with_reducible refine st_rng ?_ | with_reducible refine st_it ?_ | with_reducible refine st_for ?_ | with_reducible refine st_isi2 ?_ | with_reducible refine st_dnew ?_ | with_reducible refine st_dict ?_ | with_reducible refine st_pcons ?_ | with_reducible refine st_pnil ?_ | with_reducible refine st_addI ?_ | with_reducible refine st_i0 ?_ | with_reducible refine st_toInt ?_ | with_reducible refine st_i1 ?_ | with_reducible refine st_neg ?_ | with_reducible refine st_lenL ?_ | with_reducible refine st_lenT ?_ | with_reducible refine st_lenC ?_ | with_reducible refine st_lstL ?_ | with_reducible refine st_lstT ?_ | with_reducible refine st_tupL ?_ | with_reducible refine st_tupT ?_ | with_reducible refine st_reprB ?_ | with_reducible refine st_inS ?_ | with_reducible refine st_getL ?_ | with_reducible refine st_getA ?_ | with_reducible refine st_getC ?_ | with_reducible refine st_putL ?_ | with_reducible refine st_putA ?_ | refine st_dok (by exact Nat.le_of_ble_eq_true rfl) ?_ | refine st_kvs (by decide +kernel) (by decide) ?_)
        refine st_mul (.inl (.inr ⟨by decide, by decide⟩)) ?_
        repeat (first | with_reducible refine st_var (by with_unfolding_all exact rfl) ?_ | with_reducible refine st_seq ?_ | with_reducible refine st_set ?_ | with_reducible refine st_bin ?_ | with_reducible refine st_c ?_ | with_reducible refine st_cb ?_ | with_reducible refine st_cons ?_ | with_reducible refine st_nil ?_ | with_reducible refine st_b1 ?_ | with_reducible refine st_b2 ?_ | with_reducible refine st_test ?_ | with_reducible refine st_ifS ?_ | with_reducible refine st_ret ?_ | with_reducible refine st_retN ?_ | with_reducible refine st_drop ?_ | with_reducible refine st_next ?_ | with_reducible refine st_un ?_ | with_reducible refine st_call ?_ | with_reducible refine st_callK ?_ | with_reducible refine st_and ?_ | with_reducible refine st_or ?_ | with_reducible refine st_not ?_ | with_reducible refine st_yes ?_ | with_reducible refine st_andV ?_ | with_reducible refine st_orV ?_ | with_reducible refine st_notV ?_ | with_reducible refine st_if ?_ | with_reducible refine st_chain ?_ | with_reducible refine st_disp ?_ | with_reducible refine st_newL ?_ | with_reducible refine st_sl ?_ | with_reducible refine st_noP ?_ | with_reducible refine st_part ?_ | with_reducible refine st_dput ?_ | with_reducible refine st_join ?_ | with_reducible refine st_lc ?_ | with_reducible refine st_rng ?_ | with_reducible refine st_it ?_ | with_reducible refine st_for ?_ | with_reducible refine st_isi2 ?_ | with_reducible refine st_dnew ?_ | with_reducible refine st_dict ?_ | with_reducible refine st_pcons ?_ | with_reducible refine st_pnil ?_ | with_reducible refine st_addI ?_ | with_reducible refine st_i0 ?_ | with_reducible refine st_toInt ?_ | with_reducible refine st_i1 ?_ | with_reducible refine st_neg ?_ | with_reducible refine st_lenL ?_ | with_reducible refine st_lenT ?_ | with_reducible refine st_lenC ?_ | with_reducible refine st_lstL ?_ | with_reducible refine st_lstT ?_ | with_reducible refine st_tupL ?_ | with_reducible refine st_tupT ?_ | with_reducible refine st_reprB ?_ | with_reducible refine st_inS ?_ | with_reducible refine st_getL ?_ | with_reducible refine st_getA ?_ | with_reducible refine st_getC ?_ | with_reducible refine st_putL ?_ | with_reducible refine st_putA ?_ | refine st_dok (by exact Nat.le_of_ble_eq_true rfl) ?_ | refine st_kvs (by decide +kernel) (by decide) ?_)
        refine st_mul (.inl (.inl ⟨by decide, by decide⟩)) ?_
        repeat (first | with_reducible refine st_var (by with_unfolding_all exact rfl) ?_ | with_reducible refine st_seq ?_ | with_reducible refine st_set ?_ | with_reducible refine st_bin ?_ | with_reducible refine st_c ?_ | with_reducible refine st_cb ?_ | with_reducible refine st_cons ?_ | with_reducible refine st_nil ?_ | with_reducible refine st_b1 ?_ | with_reducible refine st_b2 ?_ | with_reducible refine st_test ?_ | with_reducible refine st_ifS ?_ | with_reducible refine st_ret ?_ | with_reducible refine st_retN ?_ | with_reducible refine st_drop ?_ | with_reducible refine st_next ?_ | with_reducible refine st_un ?_ | with_reducible refine st_call ?_ | with_reducible refine st_callK ?_ | with_reducible refine st_and ?_ | with_reducible refine st_or ?_ | with_reducible refine st_not ?_ | with_reducible refine st_yes ?_ | with_reducible refine st_andV ?_ | with_reducible refine st_orV ?_ | with_reducible refine st_notV ?_ | with_reducible refine st_if ?_ | with_reducible refine st_chain ?_ | with_reducible refine st_disp ?_ | with_reducible refine st_newL ?_ | with_reducible refine st_sl ?_ | with_reducible refine st_noP ?_ | with_reducible refine st_part ?_ | with_reducible refine st_dput ?_ | with_reducible refine st_join ?_ | with_reducible refine st_lc ?_ | with_reducible refine st_rng ?_ | with_reducible refine st_it ?_ | with_reducible refine st_for ?_ | with_reducible refine st_isi2 ?_ | with_reducible refine st_dnew ?_ | with_reducible refine st_dict ?_ | with_reducible refine st_pcons ?_ | with_reducible refine st_pnil ?_ | with_reducible refine st_addI ?_ | with_reducible refine st_i0 ?_ | with_reducible refine st_toInt ?_ | with_reducible refine st_i1 ?_ | with_reducible refine st_neg ?_ | with_reducible refine st_lenL ?_ | with_reducible refine st_lenT ?_ | with_reducible refine st_lenC ?_ | with_reducible refine st_lstL ?_ | with_reducible refine st_lstT ?_ | with_reducible refine st_tupL ?_ | with_reducible refine st_tupT ?_ | with_reducible refine st_reprB ?_ | with_reducible refine st_inS ?_ | with_reducible refine st_getL ?_ | with_reducible refine st_getA ?_ | with_reducible refine st_getC ?_ | with_reducible refine st_putL ?_ | with_reducible refine st_putA ?_ | refine st_dok (by exact Nat.le_of_ble_eq_true rfl) ?_ | refine st_kvs (by decide +kernel) (by decide) ?_)
        refine st_mul (.inl (.inr ⟨by omega, by omega⟩)) ?_
        repeat (first | with_reducible refine st_var (by with_unfolding_all exact rfl) ?_ | with_reducible refine st_seq ?_ | with_reducible refine st_set ?_ | with_reducible refine st_bin ?_ | with_reducible refine st_c ?_ | with_reducible refine st_cb ?_ | with_reducible refine st_cons ?_ | with_reducible refine st_nil ?_ | with_reducible refine st_b1 ?_ | with_reducible refine st_b2 ?_ | with_reducible refine st_test ?_ | with_reducible refine st_ifS ?_ | with_reducible refine st_ret ?_ | with_reducible refine st_retN ?_ | with_reducible refine st_drop ?_ | with_reducible refine st_next ?_ | with_reducible refine st_un ?_ | with_reducible refine st_call ?_ | with_reducible refine st_callK ?_ | with_reducible refine st_and ?_ | with_reducible refine st_or ?_ | with_reducible refine st_not ?_ | with_reducible refine st_yes ?_ | with_reducible refine st_andV ?_ | with_reducible refine st_orV ?_ | with_reducible refine st_notV ?_ | with_reducible refine st_if ?_ | with_reducible refine st_chain ?_ | with_reducible refine st_disp ?_ | with_reducible refine st_newL ?_ | with_reducible refine st_sl ?_ | with_reducible refine st_noP ?_ | with_reducible refine st_part ?_ | with_reducible refine st_dput ?_ | with_reducible refine st_join ?_ | with_reducible refine st_lc ?_ | with_reducible refine st_rng ?_ | with_reducible refine st_it ?_ | with_reducible refine st_for ?_ | with_reducible refine st_isi2 ?_ | with_reducible refine st_dnew ?_ | with_reducible refine st_dict ?_ | with_reducible refine st_pcons ?_ | with_reducible refine st_pnil ?_ | with_reducible refine st_addI ?_ | with_reducible refine st_i0 ?_ | with_reducible refine st_toInt ?_ | with_reducible refine st_i1 ?_ | with_reducible refine st_neg ?_ | with_reducible refine st_lenL ?_ | with_reducible refine st_lenT ?_ | with_reducible refine st_lenC ?_ | with_reducible refine st_lstL ?_ | with_reducible refine st_lstT ?_ | with_reducible refine st_tupL ?_ | with_reducible refine st_tupT ?_ | with_reducible refine st_reprB ?_ | with_reducible refine st_inS ?_ | with_reducible refine st_getL ?_ | with_reducible refine st_getA ?_ | with_reducible refine st_getC ?_ | with_reducible refine st_putL ?_ | with_reducible refine st_putA ?_ | refine st_dok (by exact Nat.le_of_ble_eq_true rfl) ?_ | refine st_kvs (by decide +kernel) (by decide) ?_)
        refine st_mul (.inl (.inl ⟨by decide, by decide⟩)) ?_
        repeat (first | with_reducible refine st_var (by with_unfolding_all exact rfl) ?_ | with_reducible refine st_seq ?_ | with_reducible refine st_set ?_ | with_reducible refine st_bin ?_ | with_reducible refine st_c ?_ | with_reducible refine st_cb ?_ | with_reducible refine st_cons ?_ | with_reducible refine st_nil ?_ | with_reducible refine st_b1 ?_ | with_reducible refine st_b2 ?_ | with_reducible refine st_test ?_ | with_reducible refine st_ifS ?_ | with_reducible refine st_ret ?_ | with_reducible refine st_retN ?_ | with_reducible refine st_drop ?_ | with_reducible refine st_next ?_ | with_reducible refine st_un ?_ | with_reducible refine st_call ?_ | with_reducible refine st_callK ?_ | with_reducible refine st_and ?_ | with_reducible refine st_or ?_ | with_reducible refine st_not ?_ | with_reducible refine st_yes ?_ | with_reducible refine st_andV ?_ | with_reducible refine st_orV ?_ | with_reducible refine st_notV ?_ | with_reducible refine st_if ?_ | with_reducible refine st_chain ?_ | with_reducible refine st_disp ?_ | with_reducible refine st_newL ?_ | with_reducible refine st_sl ?_ | with_reducible refine st_noP ?_ | with_reducible refine st_part ?_ | with_reducible refine st_dput ?_ | with_reducible refine st_join ?_ | with_reducible refine st_lc ?_ | with_reducible refine st_rng ?_ | with_reducible refine st_it ?_ | with_reducible refine st_for ?_ | with_reducible refine st_isi2 ?_ | with_reducible refine st_dnew ?_ | with_reducible refine st_dict ?_ | with_reducible refine st_pcons ?_ | with_reducible refine st_pnil ?_ | with_reducible refine st_addI ?_ | with_reducible refine st_i0 ?_ | with_reducible refine st_toInt ?_ | with_reducible refine st_i1 ?_ | with_reducible refine st_neg ?_ | with_reducible refine st_lenL ?_ | with_reducible refine st_lenT ?_ | with_reducible refine st_lenC ?_ | with_reducible refine st_lstL ?_ | with_reducible refine st_lstT ?_ | with_reducible refine st_tupL ?_ | with_reducible refine st_tupT ?_ | with_reducible refine st_reprB ?_ | with_reducible refine st_inS ?_ | with_reducible refine st_getL ?_ | with_reducible refine st_getA ?_ | with_reducible refine st_getC ?_ | with_reducible refine st_putL ?_ | with_reducible refine st_putA ?_ | refine st_dok (by exact Nat.le_of_ble_eq_true rfl) ?_ | refine st_kvs (by decide +kernel) (by decide) ?_)
        refine st_i p1a ?_
        repeat (first | with_reducible refine st_var (by with_unfolding_all exact rfl) ?_ | with_reducible refine st_seq ?_ | with_reducible refine st_set ?_ | with_reducible refine st_bin ?_ | with_reducible refine st_c ?_ | with_reducible refine st_cb ?_ | with_reducible refine st_cons ?_ | with_reducible refine st_nil ?_ | with_reducible refine st_b1 ?_ | with_reducible refine st_b2 ?_ | with_reducible refine st_test ?_ | with_reducible refine st_ifS ?_ | with_reducible refine st_ret ?_ | with_reducible refine st_retN ?_ | with_reducible refine st_drop ?_ | with_reducible refine st_next ?_ | with_reducible refine st_un ?_ | with_reducible refine st_call ?_ | with_reducible refine st_callK ?_ | with_reducible refine st_and ?_ | with_reducible refine st_or ?_ | with_reducible refine st_not ?_ | with_reducible refine st_yes ?_ | with_reducible refine st_andV ?_ | with_reducible refine st_orV ?_ | with_reducible refine st_notV ?_ | with_reducible refine st_if ?_ | with_reducible refine st_chain ?_ | with_reducible refine st_disp ?_ | with_reducible refine st_newL ?_ | with_reducible refine st_sl ?_ | with_reducible refine st_noP ?_ | with_reducible refine st_part ?_ | with_reducible refine st_dput ?_ | with_reducible refine st_join ?_ | with_reducible refine st_lc ?_ | with_reducible refine st_rng ?_ | with_reducible refine st_it ?_ | with_reducible refine st_for ?_ | with_reducible refine st_isi2 ?_ | with_reducible refine st_dnew ?_ | with_reducible refine st_dict ?_ | with_reducible refine st_pcons ?_ | with_reducible refine st_pnil ?_ | with_reducible refine st_addI ?_ | with_reducible refine st_i0 ?_ | with_reducible refine st_toInt ?_ | with_reducible refine st_i1 ?_ | with_reducible refine st_neg ?_ | with_reducible refine st_lenL ?_ | with_reducible refine st_lenT ?_ | with_reducible refine st_lenC ?_ | with_reducible refine st_lstL ?_ | with_reducible refine st_lstT ?_ | with_reducible refine st_tupL ?_ | with_reducible refine st_tupT ?_ | with_reducible refine st_reprB ?_ | with_reducible refine st_inS ?_ | with_reducible refine st_getL ?_ | with_reducible refine st_getA ?_ | with_reducible refine st_getC ?_ | with_reducible refine st_putL ?_ | with_reducible refine st_putA ?_ | refine st_dok (by exact Nat.le_of_ble_eq_true rfl) ?_ | refine st_kvs (by decide +kernel) (by decide) ?_)
        obtain ⟨u, eu⟩ : ∃ u : Int, u = (v % p1 * 48271 + 40699 * f.at_ * f.at_ + 69621 * f.at_ + 7) % p1 := ⟨_, rfl⟩
        have u0 : 0 ≤ u := by rw [eu]; exact Int.emod_nonneg _ (by omega)
        have u1 : u < p1 := by rw [eu]; exact Int.emod_lt_of_pos _ p1a
        rw [← eu]
        refine st_mul (.inl (.inl ⟨by omega, by omega⟩)) ?_
        repeat (first | with_reducible refine st_var (by with_unfolding_all exact rfl) ?_ | with_reducible refine st_seq ?_ | with_reducible refine st_set ?_ | with_reducible refine st_bin ?_ | with_reducible refine st_c ?_ | with_reducible refine st_cb ?_ | with_reducible refine st_cons ?_ | with_reducible refine st_nil ?_ | with_reducible refine st_b1 ?_ | with_reducible refine st_b2 ?_ | with_reducible refine st_test ?_ | with_reducible refine st_ifS ?_ | with_reducible refine st_ret ?_ | with_reducible refine st_retN ?_ | with_reducible refine st_drop ?_ | with_reducible refine st_next ?_ | with_reducible refine st_un ?_ | with_reducible refine st_call ?_ | with_reducible refine st_callK ?_ | with_reducible refine st_and ?_ | with_reducible refine st_or ?_ | with_reducible refine st_not ?_ | with_reducible refine st_yes ?_ | with_reducible refine st_andV ?_ | with_reducible refine st_orV ?_ | with_reducible refine st_notV ?_ | with_reducible refine st_if ?_ | with_reducible refine st_chain ?_ | with_reducible refine st_disp ?_ | with_reducible refine st_newL ?_ | with_reducible refine st_sl ?_ | with_reducible refine st_noP ?_ | with_reducible refine st_part ?_ | with_reducible refine st_dput ?_ | with_reducible refine st_join ?_ | with_reducible refine st_lc ?_ | with_reducible refine st_rng ?_ | with_reducible refine st_it ?_ | with_reducible refine st_for ?_ | with_reducible refine st_isi2 ?_ | with_reducible refine st_dnew ?_ | with_reducible refine st_dict ?_ | with_reducible refine st_pcons ?_ | with_reducible refine st_pnil ?_ | with_reducible refine st_addI ?_ | with_reducible refine st_i0 ?_ | with_reducible refine st_toInt ?_ | with_reducible refine st_i1 ?_ | with_reducible refine st_neg ?_ | with_reducible refine st_lenL ?_ | with_reducible refine st_lenT ?_ | with_reducible refine st_lenC ?_ | with_reducible refine st_lstL ?_ | with_reducible refine st_lstT ?_ | with_reducible refine st_tupL ?_ | with_reducible refine st_tupT ?_ | with_reducible refine st_reprB ?_ | with_reducible refine st_inS ?_ | with_reducible refine st_getL ?_ | with_reducible refine st_getA ?_ | with_reducible refine st_getC ?_ | with_reducible refine st_putL ?_ | with_reducible refine st_putA ?_ | refine st_dok (by exact Nat.le_of_ble_eq_true rfl) ?_ | refine st_kvs (by decide +kernel) (by decide) ?_)
        refine st_i (by decide) ?_
        obtain ⟨p2, e2, p2a, p2b⟩ := atI_primes (Int.emod_nonneg (f.at_ + 2) (by decide)) (Int.emod_lt_of_pos (f.at_ + 2) (b := 5) (by decide))
        refine st_ixL e2 ?_
        refine st_i p2a ?_
        repeat (first | with_reducible refine st_var (by with_unfolding_all exact rfl) ?_ | with_reducible refine st_seq ?_ | with_reducible refine st_set ?_ | with_reducible refine st_bin ?_ | with_reducible refine st_c ?_ | with_reducible refine st_cb ?_ | with_reducible refine st_cons ?_ | with_reducible refine st_nil ?_ | with_reducible refine st_b1 ?_ | with_reducible refine st_b2 ?_ | with_reducible refine st_test ?_ | with_reducible refine st_ifS ?_ | with_reducible refine st_ret ?_ | with_reducible refine st_retN ?_ | with_reducible refine st_drop ?_ | with_reducible refine st_next ?_ | with_reducible refine st_un ?_ | with_reducible refine st_call ?_ | with_reducible refine st_callK ?_ | with_reducible refine st_and ?_ | with_reducible refine st_or ?_ | with_reducible refine st_not ?_ | with_reducible refine st_yes ?_ | with_reducible refine st_andV ?_ | with_reducible refine st_orV ?_ | with_reducible refine st_notV ?_ | with_reducible refine st_if ?_ | with_reducible refine st_chain ?_ | with_reducible refine st_disp ?_ | with_reducible refine st_newL ?_ | with_reducible refine st_sl ?_ | with_reducible refine st_noP ?_ | with_reducible refine st_part ?_ | with_reducible refine st_dput ?_ | with_reducible refine st_join ?_ | with_reducible refine st_lc ?_ | with_reducible refine st_rng ?_ | with_reducible refine st_it ?_ | with_reducible refine st_for ?_ | with_reducible refine st_isi2 ?_ | with_reducible refine st_dnew ?_ | with_reducible refine st_dict ?_ | with_reducible refine st_pcons ?_ | with_reducible refine st_pnil ?_ | with_reducible refine st_addI ?_ | with_reducible refine st_i0 ?_ | with_reducible refine st_toInt ?_ | with_reducible refine st_i1 ?_ | with_reducible refine st_neg ?_ | with_reducible refine st_lenL ?_ | with_reducible refine st_lenT ?_ | with_reducible refine st_lenC ?_ | with_reducible refine st_lstL ?_ | with_reducible refine st_lstT ?_ | with_reducible refine st_tupL ?_ | with_reducible refine st_tupT ?_ | with_reducible refine st_reprB ?_ | with_reducible refine st_inS ?_ | with_reducible refine st_getL ?_ | with_reducible refine st_getA ?_ | with_reducible refine st_getC ?_ | with_reducible refine st_putL ?_ | with_reducible refine st_putA ?_ | refine st_dok (by exact Nat.le_of_ble_eq_true rfl) ?_ | refine st_kvs (by decide +kernel) (by decide) ?_)
        obtain ⟨y, ey⟩ : ∃ y : Int, y = (u * (u + 16807)) % p2 := ⟨_, rfl⟩
        have y0 : 0 ≤ y := by rw [ey]; exact Int.emod_nonneg _ (by omega)
        have y1 : y < p2 := by rw [ey]; exact Int.emod_lt_of_pos _ p2a
        rw [← ey]
        refine st_mul (.inl (.inl ⟨by omega, by omega⟩)) ?_
        repeat (first | with_reducible refine st_var (by with_unfolding_all exact rfl) ?_ | with_reducible refine st_seq ?_ | with_reducible refine st_set ?_ | with_reducible refine st_bin ?_ | with_reducible refine st_c ?_ | with_reducible refine st_cb ?_ | with_reducible refine st_cons ?_ | with_reducible refine st_nil ?_ | with_reducible refine st_b1 ?_ | with_reducible refine st_b2 ?_ | with_reducible refine st_test ?_ | with_reducible refine st_ifS ?_ | with_reducible refine st_ret ?_ | with_reducible refine st_retN ?_ | with_reducible refine st_drop ?_ | with_reducible refine st_next ?_ | with_reducible refine st_un ?_ | with_reducible refine st_call ?_ | with_reducible refine st_callK ?_ | with_reducible refine st_and ?_ | with_reducible refine st_or ?_ | with_reducible refine st_not ?_ | with_reducible refine st_yes ?_ | with_reducible refine st_andV ?_ | with_reducible refine st_orV ?_ | with_reducible refine st_notV ?_ | with_reducible refine st_if ?_ | with_reducible refine st_chain ?_ | with_reducible refine st_disp ?_ | with_reducible refine st_newL ?_ | with_reducible refine st_sl ?_ | with_reducible refine st_noP ?_ | with_reducible refine st_part ?_ | with_reducible refine st_dput ?_ | with_reducible refine st_join ?_ | with_reducible refine st_lc ?_ | with_reducible refine st_rng ?_ | with_reducible refine st_it ?_ | with_reducible refine st_for ?_ | with_reducible refine st_isi2 ?_ | with_reducible refine st_dnew ?_ | with_reducible refine st_dict ?_ | with_reducible refine st_pcons ?_ | with_reducible refine st_pnil ?_ | with_reducible refine st_addI ?_ | with_reducible refine st_i0 ?_ | with_reducible refine st_toInt ?_ | with_reducible refine st_i1 ?_ | with_reducible refine st_neg ?_ | with_reducible refine st_lenL ?_ | with_reducible refine st_lenT ?_ | with_reducible refine st_lenC ?_ | with_reducible refine st_lstL ?_ | with_reducible refine st_lstT ?_ | with_reducible refine st_tupL ?_ | with_reducible refine st_tupT ?_ | with_reducible refine st_reprB ?_ | with_reducible refine st_inS ?_ | with_reducible refine st_getL ?_ | with_reducible refine st_getA ?_ | with_reducible refine st_getC ?_ | with_reducible refine st_putL ?_ | with_reducible refine st_putA ?_ | refine st_dok (by exact Nat.le_of_ble_eq_true rfl) ?_ | refine st_kvs (by decide +kernel) (by decide) ?_)
        refine st_i (by decide) ?_
        repeat (first | with_reducible refine st_var (by with_unfolding_all exact rfl) ?_ | with_reducible refine st_seq ?_ | with_reducible refine st_set ?_ | with_reducible refine st_bin ?_ | with_reducible refine st_c ?_ | with_reducible refine st_cb ?_ | with_reducible refine st_cons ?_ | with_reducible refine st_nil ?_ | with_reducible refine st_b1 ?_ | with_reducible refine st_b2 ?_ | with_reducible refine st_test ?_ | with_reducible refine st_ifS ?_ | with_reducible refine st_ret ?_ | with_reducible refine st_retN ?_ | with_reducible refine st_drop ?_ | with_reducible refine st_next ?_ | with_reducible refine st_un ?_ | with_reducible refine st_call ?_ | with_reducible refine st_callK ?_ | with_reducible refine st_and ?_ | with_reducible refine st_or ?_ | with_reducible refine st_not ?_ | with_reducible refine st_yes ?_ | with_reducible refine st_andV ?_ | with_reducible refine st_orV ?_ | with_reducible refine st_notV ?_ | with_reducible refine st_if ?_ | with_reducible refine st_chain ?_ | with_reducible refine st_disp ?_ | with_reducible refine st_newL ?_ | with_reducible refine st_sl ?_ | with_reducible refine st_noP ?_ | with_reducible refine st_part ?_ | with_reducible refine st_dput ?_ | with_reducible refine st_join ?_ | with_reducible refine st_lc ?_ | with_reducible refine st_rng ?_ | with_reducible refine st_it ?_ | with_reducible refine st_for ?_ | with_reducible refine st_isi2 ?_ | with_reducible refine st_dnew ?_ | with_reducible refine st_dict ?_ | with_reducible refine st_pcons ?_ | with_reducible refine st_pnil ?_ | with_reducible refine st_addI ?_ | with_reducible refine st_i0 ?_ | with_reducible refine st_toInt ?_ | with_reducible refine st_i1 ?_ | with_reducible refine st_neg ?_ | with_reducible refine st_lenL ?_ | with_reducible refine st_lenT ?_ | with_reducible refine st_lenC ?_ | with_reducible refine st_lstL ?_ | with_reducible refine st_lstT ?_ | with_reducible refine st_tupL ?_ | with_reducible refine st_tupT ?_ | with_reducible refine st_reprB ?_ | with_reducible refine st_inS ?_ | with_reducible refine st_getL ?_ | with_reducible refine st_getA ?_ | with_reducible refine st_getC ?_ | with_reducible refine st_putL ?_ | with_reducible refine st_putA ?_ | refine st_dok (by exact Nat.le_of_ble_eq_true rfl) ?_ | refine st_kvs (by decide +kernel) (by decide) ?_)
        refine st_i (wide_div (by decide) (b := 64) (by decide) (by decide) (by decide)) ?_
        repeat (first | with_reducible refine st_var (by with_unfolding_all exact rfl) ?_ | with_reducible refine st_seq ?_ | with_reducible refine st_set ?_ | with_reducible refine st_bin ?_ | with_reducible refine st_c ?_ | with_reducible refine st_cb ?_ | with_reducible refine st_cons ?_ | with_reducible refine st_nil ?_ | with_reducible refine st_b1 ?_ | with_reducible refine st_b2 ?_ | with_reducible refine st_test ?_ | with_reducible refine st_ifS ?_ | with_reducible refine st_ret ?_ | with_reducible refine st_retN ?_ | with_reducible refine st_drop ?_ | with_reducible refine st_next ?_ | with_reducible refine st_un ?_ | with_reducible refine st_call ?_ | with_reducible refine st_callK ?_ | with_reducible refine st_and ?_ | with_reducible refine st_or ?_ | with_reducible refine st_not ?_ | with_reducible refine st_yes ?_ | with_reducible refine st_andV ?_ | with_reducible refine st_orV ?_ | with_reducible refine st_notV ?_ | with_reducible refine st_if ?_ | with_reducible refine st_chain ?_ | with_reducible refine st_disp ?_ | with_reducible refine st_newL ?_ | with_reducible refine st_sl ?_ | with_reducible refine st_noP ?_ | with_reducible refine st_part ?_ | with_reducible refine st_dput ?_ | with_reducible refine st_join ?_ | with_reducible refine st_lc ?_ | with_reducible refine st_rng ?_ | with_reducible refine st_it ?_ | with_reducible refine st_for ?_ | with_reducible refine st_isi2 ?_ | with_reducible refine st_dnew ?_ | with_reducible refine st_dict ?_ | with_reducible refine st_pcons ?_ | with_reducible refine st_pnil ?_ | with_reducible refine st_addI ?_ | with_reducible refine st_i0 ?_ | with_reducible refine st_toInt ?_ | with_reducible refine st_i1 ?_ | with_reducible refine st_neg ?_ | with_reducible refine st_lenL ?_ | with_reducible refine st_lenT ?_ | with_reducible refine st_lenC ?_ | with_reducible refine st_lstL ?_ | with_reducible refine st_lstT ?_ | with_reducible refine st_tupL ?_ | with_reducible refine st_tupT ?_ | with_reducible refine st_reprB ?_ | with_reducible refine st_inS ?_ | with_reducible refine st_getL ?_ | with_reducible refine st_getA ?_ | with_reducible refine st_getC ?_ | with_reducible refine st_putL ?_ | with_reducible refine st_putA ?_ | refine st_dok (by exact Nat.le_of_ble_eq_true rfl) ?_ | refine st_kvs (by decide +kernel) (by decide) ?_)
        refine st_i hm0 ?_
        refine st_rtP rfl (h _ _ (Int.emod_nonneg _ (by omega)) (Int.emod_lt_of_pos _ hm0) ⟨⟨ok.cs, ?_, ok.le0⟩, ?_⟩)
        · show 0 ≤ f.at_ + 1
          omega
        · show f.at_ + 1 ≤ f.at_ + 1
          omega
      repeat (first | with_reducible refine st_var (by with_unfolding_all exact rfl) ?_ | with_reducible refine st_seq ?_ | with_reducible refine st_set ?_ | with_reducible refine st_bin ?_ | with_reducible refine st_c ?_ | with_reducible refine st_cb ?_ | with_reducible refine st_cons ?_ | with_reducible refine st_nil ?_ | with_reducible refine st_b1 ?_ | with_reducible refine st_b2 ?_ | with_reducible refine st_test ?_ | with_reducible refine st_ifS ?_ | with_reducible refine st_ret ?_ | with_reducible refine st_retN ?_ | with_reducible refine st_drop ?_ | with_reducible refine st_next ?_ | with_reducible refine st_un ?_ | with_reducible refine st_call ?_ | with_reducible refine st_callK ?_ | with_reducible refine st_and ?_ | with_reducible refine st_or ?_ | with_reducible refine st_not ?_ | with_reducible refine st_yes ?_ | with_reducible refine st_andV ?_ | with_reducible refine st_orV ?_ | with_reducible refine st_notV ?_ | with_reducible refine st_if ?_ | with_reducible refine st_chain ?_ | with_reducible refine st_disp ?_ | with_reducible refine st_newL ?_ | with_reducible refine st_sl ?_ | with_reducible refine st_noP ?_ | with_reducible refine st_part ?_ | with_reducible refine st_dput ?_ | with_reducible refine st_join ?_ | with_reducible refine st_lc ?_ | with_reducible refine st_rng ?_ | with_reducible refine st_it ?_ | with_reducible refine st_for ?_ | with_reducible refine st_isi2 ?_ | with_reducible refine st_dnew ?_ | with_reducible refine st_dict ?_ | with_reducible refine st_pcons ?_ | with_reducible refine st_pnil ?_ | with_reducible refine st_addI ?_ | with_reducible refine st_i0 ?_ | with_reducible refine st_toInt ?_ | with_reducible refine st_i1 ?_ | with_reducible refine st_neg ?_ | with_reducible refine st_lenL ?_ | with_reducible refine st_lenT ?_ | with_reducible refine st_lenC ?_ | with_reducible refine st_lstL ?_ | with_reducible refine st_lstT ?_ | with_reducible refine st_tupL ?_ | with_reducible refine st_tupT ?_ | with_reducible refine st_reprB ?_ | with_reducible refine st_inS ?_ | with_reducible refine st_getL ?_ | with_reducible refine st_getA ?_ | with_reducible refine st_getC ?_ | with_reducible refine st_putL ?_ | with_reducible refine st_putA ?_ | refine st_dok (by exact Nat.le_of_ble_eq_true rfl) ?_ | refine st_kvs (by decide +kernel) (by decide) ?_)
      refine st_ite (fun c => ?_) (fun c => ?_)
      · repeat (first | with_reducible refine st_var (by with_unfolding_all exact rfl) ?_ | with_reducible refine st_seq ?_ | with_reducible refine st_set ?_ | with_reducible refine st_bin ?_ | with_reducible refine st_c ?_ | with_reducible refine st_cb ?_ | with_reducible refine st_cons ?_ | with_reducible refine st_nil ?_ | with_reducible refine st_b1 ?_ | with_reducible refine st_b2 ?_ | with_reducible refine st_test ?_ | with_reducible refine st_ifS ?_ | with_reducible refine st_ret ?_ | with_reducible refine st_retN ?_ | with_reducible refine st_drop ?_ | with_reducible refine st_next ?_ | with_reducible refine st_un ?_ | with_reducible refine st_call ?_ | with_reducible refine st_callK ?_ | with_reducible refine st_and ?_ | with_reducible refine st_or ?_ | with_reducible refine st_not ?_ | with_reducible refine st_yes ?_ | with_reducible refine st_andV ?_ | with_reducible refine st_orV ?_ | with_reducible refine st_notV ?_ | with_reducible refine st_if ?_ | with_reducible refine st_chain ?_ | with_reducible refine st_disp ?_ | with_reducible refine st_newL ?_ | with_reducible refine st_sl ?_ | with_reducible refine st_noP ?_ | with_reducible refine st_part ?_ | with_reducible refine st_dput ?_ | with_reducible refine st_join ?_ | with_reducible refine st_lc ?_ | with_reducible refine st_rng ?_ | with_reducible refine st_it ?_ | with_reducible refine st_for ?_ | with_reducible refine st_isi2 ?_ | with_reducible refine st_dnew ?_ | with_reducible refine st_dict ?_ | with_reducible refine st_pcons ?_ | with_reducible refine st_pnil ?_ | with_reducible refine st_addI ?_ | with_reducible refine st_i0 ?_ | with_reducible refine st_toInt ?_ | with_reducible refine st_i1 ?_ | with_reducible refine st_neg ?_ | with_reducible refine st_lenL ?_ | with_reducible refine st_lenT ?_ | with_reducible refine st_lenC ?_ | with_reducible refine st_lstL ?_ | with_reducible refine st_lstT ?_ | with_reducible refine st_tupL ?_ | with_reducible refine st_tupT ?_ | with_reducible refine st_reprB ?_ | with_reducible refine st_inS ?_ | with_reducible refine st_getL ?_ | with_reducible refine st_getA ?_ | with_reducible refine st_getC ?_ | with_reducible refine st_putL ?_ | with_reducible refine st_putA ?_ | refine st_dok (by exact Nat.le_of_ble_eq_true rfl) ?_ | refine st_kvs (by decide +kernel) (by decide) ?_)
        refine st_i hpow ?_
        repeat (first | with_reducible refine st_var (by with_unfolding_all exact rfl) ?_ | with_reducible refine st_seq ?_ | with_reducible refine st_set ?_ | with_reducible refine st_bin ?_ | with_reducible refine st_c ?_ | with_reducible refine st_cb ?_ | with_reducible refine st_cons ?_ | with_reducible refine st_nil ?_ | with_reducible refine st_b1 ?_ | with_reducible refine st_b2 ?_ | with_reducible refine st_test ?_ | with_reducible refine st_ifS ?_ | with_reducible refine st_ret ?_ | with_reducible refine st_retN ?_ | with_reducible refine st_drop ?_ | with_reducible refine st_next ?_ | with_reducible refine st_un ?_ | with_reducible refine st_call ?_ | with_reducible refine st_callK ?_ | with_reducible refine st_and ?_ | with_reducible refine st_or ?_ | with_reducible refine st_not ?_ | with_reducible refine st_yes ?_ | with_reducible refine st_andV ?_ | with_reducible refine st_orV ?_ | with_reducible refine st_notV ?_ | with_reducible refine st_if ?_ | with_reducible refine st_chain ?_ | with_reducible refine st_disp ?_ | with_reducible refine st_newL ?_ | with_reducible refine st_sl ?_ | with_reducible refine st_noP ?_ | with_reducible refine st_part ?_ | with_reducible refine st_dput ?_ | with_reducible refine st_join ?_ | with_reducible refine st_lc ?_ | with_reducible refine st_rng ?_ | with_reducible refine st_it ?_ | with_reducible refine st_for ?_ | with_reducible refine st_isi2 ?_ | with_reducible refine st_dnew ?_ | with_reducible refine st_dict ?_ | with_reducible refine st_pcons ?_ | with_reducible refine st_pnil ?_ | with_reducible refine st_addI ?_ | with_reducible refine st_i0 ?_ | with_reducible refine st_toInt ?_ | with_reducible refine st_i1 ?_ | with_reducible refine st_neg ?_ | with_reducible refine st_lenL ?_ | with_reducible refine st_lenT ?_ | with_reducible refine st_lenC ?_ | with_reducible refine st_lstL ?_ | with_reducible refine st_lstT ?_ | with_reducible refine st_tupL ?_ | with_reducible refine st_tupT ?_ | with_reducible refine st_reprB ?_ | with_reducible refine st_inS ?_ | with_reducible refine st_getL ?_ | with_reducible refine st_getA ?_ | with_reducible refine st_getC ?_ | with_reducible refine st_putL ?_ | with_reducible refine st_putA ?_ | refine st_dok (by exact Nat.le_of_ble_eq_true rfl) ?_ | refine st_kvs (by decide +kernel) (by decide) ?_)
        refine st_ite (fun c => ?_) (fun c => ?_)
        · repeat (first | with_reducible refine st_var (by with_unfolding_all exact rfl) ?_ | with_reducible refine st_seq ?_ | with_reducible refine st_set ?_ | with_reducible refine st_bin ?_ | with_reducible refine st_c ?_ | with_reducible refine st_cb ?_ | with_reducible refine st_cons ?_ | with_reducible refine st_nil ?_ | with_reducible refine st_b1 ?_ | with_reducible refine st_b2 ?_ | with_reducible refine st_test ?_ | with_reducible refine st_ifS ?_ | with_reducible refine st_ret ?_ | with_reducible refine st_retN ?_ | with_reducible refine st_drop ?_ | with_reducible refine st_next ?_ | with_reducible refine st_un ?_ | with_reducible refine st_call ?_ | with_reducible refine st_callK ?_ | with_reducible refine st_and ?_ | with_reducible refine st_or ?_ | with_reducible refine st_not ?_ | with_reducible refine st_yes ?_ | with_reducible refine st_andV ?_ | with_reducible refine st_orV ?_ | with_reducible refine st_notV ?_ | with_reducible refine st_if ?_ | with_reducible refine st_chain ?_ | with_reducible refine st_disp ?_ | with_reducible refine st_newL ?_ | with_reducible refine st_sl ?_ | with_reducible refine st_noP ?_ | with_reducible refine st_part ?_ | with_reducible refine st_dput ?_ | with_reducible refine st_join ?_ | with_reducible refine st_lc ?_ | with_reducible refine st_rng ?_ | with_reducible refine st_it ?_ | with_reducible refine st_for ?_ | with_reducible refine st_isi2 ?_ | with_reducible refine st_dnew ?_ | with_reducible refine st_dict ?_ | with_reducible refine st_pcons ?_ | with_reducible refine st_pnil ?_ | with_reducible refine st_addI ?_ | with_reducible refine st_i0 ?_ | with_reducible refine st_toInt ?_ | with_reducible refine st_i1 ?_ | with_reducible refine st_neg ?_ | with_reducible refine st_lenL ?_ | with_reducible refine st_lenT ?_ | with_reducible refine st_lenC ?_ | with_reducible refine st_lstL ?_ | with_reducible refine st_lstT ?_ | with_reducible refine st_tupL ?_ | with_reducible refine st_tupT ?_ | with_reducible refine st_reprB ?_ | with_reducible refine st_inS ?_ | with_reducible refine st_getL ?_ | with_reducible refine st_getA ?_ | with_reducible refine st_getC ?_ | with_reducible refine st_putL ?_ | with_reducible refine st_putA ?_ | refine st_dok (by exact Nat.le_of_ble_eq_true rfl) ?_ | refine st_kvs (by decide +kernel) (by decide) ?_)
          refine st_i hpow ?_
          repeat (first | with_reducible refine st_var (by with_unfolding_all exact rfl) ?_ | with_reducible refine st_seq ?_ | with_reducible refine st_set ?_ | with_reducible refine st_bin ?_ | with_reducible refine st_c ?_ | with_reducible refine st_cb ?_ | with_reducible refine st_cons ?_ | with_reducible refine st_nil ?_ | with_reducible refine st_b1 ?_ | with_reducible refine st_b2 ?_ | with_reducible refine st_test ?_ | with_reducible refine st_ifS ?_ | with_reducible refine st_ret ?_ | with_reducible refine st_retN ?_ | with_reducible refine st_drop ?_ | with_reducible refine st_next ?_ | with_reducible refine st_un ?_ | with_reducible refine st_call ?_ | with_reducible refine st_callK ?_ | with_reducible refine st_and ?_ | with_reducible refine st_or ?_ | with_reducible refine st_not ?_ | with_reducible refine st_yes ?_ | with_reducible refine st_andV ?_ | with_reducible refine st_orV ?_ | with_reducible refine st_notV ?_ | with_reducible refine st_if ?_ | with_reducible refine st_chain ?_ | with_reducible refine st_disp ?_ | with_reducible refine st_newL ?_ | with_reducible refine st_sl ?_ | with_reducible refine st_noP ?_ | with_reducible refine st_part ?_ | with_reducible refine st_dput ?_ | with_reducible refine st_join ?_ | with_reducible refine st_lc ?_ | with_reducible refine st_rng ?_ | with_reducible refine st_it ?_ | with_reducible refine st_for ?_ | with_reducible refine st_isi2 ?_ | with_reducible refine st_dnew ?_ | with_reducible refine st_dict ?_ | with_reducible refine st_pcons ?_ | with_reducible refine st_pnil ?_ | with_reducible refine st_addI ?_ | with_reducible refine st_i0 ?_ | with_reducible refine st_toInt ?_ | with_reducible refine st_i1 ?_ | with_reducible refine st_neg ?_ | with_reducible refine st_lenL ?_ | with_reducible refine st_lenT ?_ | with_reducible refine st_lenC ?_ | with_reducible refine st_lstL ?_ | with_reducible refine st_lstT ?_ | with_reducible refine st_tupL ?_ | with_reducible refine st_tupT ?_ | with_reducible refine st_reprB ?_ | with_reducible refine st_inS ?_ | with_reducible refine st_getL ?_ | with_reducible refine st_getA ?_ | with_reducible refine st_getC ?_ | with_reducible refine st_putL ?_ | with_reducible refine st_putA ?_ | refine st_dok (by exact Nat.le_of_ble_eq_true rfl) ?_ | refine st_kvs (by decide +kernel) (by decide) ?_)
          refine st_i (hdv _) ?_
          repeat (first | with_reducible refine st_var (by with_unfolding_all exact rfl) ?_ | with_reducible refine st_seq ?_ | with_reducible refine st_set ?_ | with_reducible refine st_bin ?_ | with_reducible refine st_c ?_ | with_reducible refine st_cb ?_ | with_reducible refine st_cons ?_ | with_reducible refine st_nil ?_ | with_reducible refine st_b1 ?_ | with_reducible refine st_b2 ?_ | with_reducible refine st_test ?_ | with_reducible refine st_ifS ?_ | with_reducible refine st_ret ?_ | with_reducible refine st_retN ?_ | with_reducible refine st_drop ?_ | with_reducible refine st_next ?_ | with_reducible refine st_un ?_ | with_reducible refine st_call ?_ | with_reducible refine st_callK ?_ | with_reducible refine st_and ?_ | with_reducible refine st_or ?_ | with_reducible refine st_not ?_ | with_reducible refine st_yes ?_ | with_reducible refine st_andV ?_ | with_reducible refine st_orV ?_ | with_reducible refine st_notV ?_ | with_reducible refine st_if ?_ | with_reducible refine st_chain ?_ | with_reducible refine st_disp ?_ | with_reducible refine st_newL ?_ | with_reducible refine st_sl ?_ | with_reducible refine st_noP ?_ | with_reducible refine st_part ?_ | with_reducible refine st_dput ?_ | with_reducible refine st_join ?_ | with_reducible refine st_lc ?_ | with_reducible refine st_rng ?_ | with_reducible refine st_it ?_ | with_reducible refine st_for ?_ | with_reducible refine st_isi2 ?_ | with_reducible refine st_dnew ?_ | with_reducible refine st_dict ?_ | with_reducible refine st_pcons ?_ | with_reducible refine st_pnil ?_ | with_reducible refine st_addI ?_ | with_reducible refine st_i0 ?_ | with_reducible refine st_toInt ?_ | with_reducible refine st_i1 ?_ | with_reducible refine st_neg ?_ | with_reducible refine st_lenL ?_ | with_reducible refine st_lenT ?_ | with_reducible refine st_lenC ?_ | with_reducible refine st_lstL ?_ | with_reducible refine st_lstT ?_ | with_reducible refine st_tupL ?_ | with_reducible refine st_tupT ?_ | with_reducible refine st_reprB ?_ | with_reducible refine st_inS ?_ | with_reducible refine st_getL ?_ | with_reducible refine st_getA ?_ | with_reducible refine st_getC ?_ | with_reducible refine st_putL ?_ | with_reducible refine st_putA ?_ | refine st_dok (by exact Nat.le_of_ble_eq_true rfl) ?_ | refine st_kvs (by decide +kernel) (by decide) ?_)
          refine st_i hpow ?_
          repeat (first | with_reducible refine st_var (by with_unfolding_all exact rfl) ?_ | with_reducible refine st_seq ?_ | with_reducible refine st_set ?_ | with_reducible refine st_bin ?_ | with_reducible refine st_c ?_ | with_reducible refine st_cb ?_ | with_reducible refine st_cons ?_ | with_reducible refine st_nil ?_ | with_reducible refine st_b1 ?_ | with_reducible refine st_b2 ?_ | with_reducible refine st_test ?_ | with_reducible refine st_ifS ?_ | with_reducible refine st_ret ?_ | with_reducible refine st_retN ?_ | with_reducible refine st_drop ?_ | with_reducible refine st_next ?_ | with_reducible refine st_un ?_ | with_reducible refine st_call ?_ | with_reducible refine st_callK ?_ | with_reducible refine st_and ?_ | with_reducible refine st_or ?_ | with_reducible refine st_not ?_ | with_reducible refine st_yes ?_ | with_reducible refine st_andV ?_ | with_reducible refine st_orV ?_ | with_reducible refine st_notV ?_ | with_reducible refine st_if ?_ | with_reducible refine st_chain ?_ | with_reducible refine st_disp ?_ | with_reducible refine st_newL ?_ | with_reducible refine st_sl ?_ | with_reducible refine st_noP ?_ | with_reducible refine st_part ?_ | with_reducible refine st_dput ?_ | with_reducible refine st_join ?_ | with_reducible refine st_lc ?_ | with_reducible refine st_rng ?_ | with_reducible refine st_it ?_ | with_reducible refine st_for ?_ | with_reducible refine st_isi2 ?_ | with_reducible refine st_dnew ?_ | with_reducible refine st_dict ?_ | with_reducible refine st_pcons ?_ | with_reducible refine st_pnil ?_ | with_reducible refine st_addI ?_ | with_reducible refine st_i0 ?_ | with_reducible refine st_toInt ?_ | with_reducible refine st_i1 ?_ | with_reducible refine st_neg ?_ | with_reducible refine st_lenL ?_ | with_reducible refine st_lenT ?_ | with_reducible refine st_lenC ?_ | with_reducible refine st_lstL ?_ | with_reducible refine st_lstT ?_ | with_reducible refine st_tupL ?_ | with_reducible refine st_tupT ?_ | with_reducible refine st_reprB ?_ | with_reducible refine st_inS ?_ | with_reducible refine st_getL ?_ | with_reducible refine st_getA ?_ | with_reducible refine st_getC ?_ | with_reducible refine st_putL ?_ | with_reducible refine st_putA ?_ | refine st_dok (by exact Nat.le_of_ble_eq_true rfl) ?_ | refine st_kvs (by decide +kernel) (by decide) ?_)
          refine st_i hm0 ?_
          refine st_rtP rfl (h _ _ (Int.emod_nonneg _ (by omega)) (Int.emod_lt_of_pos _ hm0) ⟨⟨ok.cs, ?_, ?_⟩, ?_⟩)
          · show 0 ≤ f.at_ + 1
            omega
          · have c' := of_decide_eq_true c
            exact Int.ediv_nonneg (by have : (10 : Int) ^ (18 : Int).toNat = 1000000000000000000 := by decide
                                      omega) (by omega)
          · show f.at_ + 1 ≤ f.at_ + 1
            omega
        · exact st_next fin
      · exact st_next fin
    repeat (first | with_reducible refine st_var (by with_unfolding_all exact rfl) ?_ | with_reducible refine st_seq ?_ | with_reducible refine st_set ?_ | with_reducible refine st_bin ?_ | with_reducible refine st_c ?_ | with_reducible refine st_cb ?_ | with_reducible refine st_cons ?_ | with_reducible refine st_nil ?_ | with_reducible refine st_b1 ?_ | with_reducible refine st_b2 ?_ | with_reducible refine st_test ?_ | with_reducible refine st_ifS ?_ | with_reducible refine st_ret ?_ | with_reducible refine st_retN ?_ | with_reducible refine st_drop ?_ | with_reducible refine st_next ?_ | with_reducible refine st_un ?_ | with_reducible refine st_call ?_ | with_reducible refine st_callK ?_ | with_reducible refine st_and ?_ | with_reducible refine st_or ?_ | with_reducible refine st_not ?_ | with_reducible refine st_yes ?_ | with_reducible refine st_andV ?_ | with_reducible refine st_orV ?_ | with_reducible refine st_notV ?_ | with_reducible refine st_if ?_ | with_reducible refine st_chain ?_ | with_reducible refine st_disp ?_ | with_reducible refine st_newL ?_ | with_reducible refine st_sl ?_ | with_reducible refine st_noP ?_ | with_reducible refine st_part ?_ | with_reducible refine st_dput ?_ | with_reducible refine st_join ?_ | with_reducible refine st_lc ?_ | with_reducible refine st_rng ?_ | with_reducible refine st_it ?_ | with_reducible refine st_for ?_ | with_reducible refine st_isi2 ?_ | with_reducible refine st_dnew ?_ | with_reducible refine st_dict ?_ | with_reducible refine st_pcons ?_ | with_reducible refine st_pnil ?_ | with_reducible refine st_addI ?_ | with_reducible refine st_i0 ?_ | with_reducible refine st_toInt ?_ | with_reducible refine st_i1 ?_ | with_reducible refine st_neg ?_ | with_reducible refine st_lenL ?_ | with_reducible refine st_lenT ?_ | with_reducible refine st_lenC ?_ | with_reducible refine st_lstL ?_ | with_reducible refine st_lstT ?_ | with_reducible refine st_tupL ?_ | with_reducible refine st_tupT ?_ | with_reducible refine st_reprB ?_ | with_reducible refine st_inS ?_ | with_reducible refine st_getL ?_ | with_reducible refine st_getA ?_ | with_reducible refine st_getC ?_ | with_reducible refine st_putL ?_ | with_reducible refine st_putA ?_ | refine st_dok (by exact Nat.le_of_ble_eq_true rfl) ?_ | refine st_kvs (by decide +kernel) (by decide) ?_)
    unfold dEqv
    have q1 : pdD (feedC { f with at_ := f.at_ + 1 } :: R) (.p (.lst (f.cs.map RB.P.int))) = some (.list (f.cs.map PyData.int)) := by
      show (pds (f.cs.map RB.P.int)).map PyData.list = _
      rw [pds_ints]
      rfl
    rw [q1]
    refine ⟨PySem.W.ke_shaped_ints _, PySem.W.ke_shaped_ints [], ?_⟩
    rw [eqv_ints_nil]
    refine st_ite (fun c => ?_) (fun c => ?_)
    · have c' : f.cs ≠ [] := by simpa using c
      have c2 : 0 < f.cs.length := List.length_pos_iff.mpr c'
      repeat (first | with_reducible refine st_var (by with_unfolding_all exact rfl) ?_ | with_reducible refine st_seq ?_ | with_reducible refine st_set ?_ | with_reducible refine st_bin ?_ | with_reducible refine st_c ?_ | with_reducible refine st_cb ?_ | with_reducible refine st_cons ?_ | with_reducible refine st_nil ?_ | with_reducible refine st_b1 ?_ | with_reducible refine st_b2 ?_ | with_reducible refine st_test ?_ | with_reducible refine st_ifS ?_ | with_reducible refine st_ret ?_ | with_reducible refine st_retN ?_ | with_reducible refine st_drop ?_ | with_reducible refine st_next ?_ | with_reducible refine st_un ?_ | with_reducible refine st_call ?_ | with_reducible refine st_callK ?_ | with_reducible refine st_and ?_ | with_reducible refine st_or ?_ | with_reducible refine st_not ?_ | with_reducible refine st_yes ?_ | with_reducible refine st_andV ?_ | with_reducible refine st_orV ?_ | with_reducible refine st_notV ?_ | with_reducible refine st_if ?_ | with_reducible refine st_chain ?_ | with_reducible refine st_disp ?_ | with_reducible refine st_newL ?_ | with_reducible refine st_sl ?_ | with_reducible refine st_noP ?_ | with_reducible refine st_part ?_ | with_reducible refine st_dput ?_ | with_reducible refine st_join ?_ | with_reducible refine st_lc ?_ | with_reducible refine st_rng ?_ | with_reducible refine st_it ?_ | with_reducible refine st_for ?_ | with_reducible refine st_isi2 ?_ | with_reducible refine st_dnew ?_ | with_reducible refine st_dict ?_ | with_reducible refine st_pcons ?_ | with_reducible refine st_pnil ?_ | with_reducible refine st_addI ?_ | with_reducible refine st_i0 ?_ | with_reducible refine st_toInt ?_ | with_reducible refine st_i1 ?_ | with_reducible refine st_neg ?_ | with_reducible refine st_lenL ?_ | with_reducible refine st_lenT ?_ | with_reducible refine st_lenC ?_ | with_reducible refine st_lstL ?_ | with_reducible refine st_lstT ?_ | with_reducible refine st_tupL ?_ | with_reducible refine st_tupT ?_ | with_reducible refine st_reprB ?_ | with_reducible refine st_inS ?_ | with_reducible refine st_getL ?_ | with_reducible refine st_getA ?_ | with_reducible refine st_getC ?_ | with_reducible refine st_putL ?_ | with_reducible refine st_putA ?_ | refine st_dok (by exact Nat.le_of_ble_eq_true rfl) ?_ | refine st_kvs (by decide +kernel) (by decide) ?_)
      have c3 : (0 : Int) < ((f.cs.map RB.P.int).length : Nat) := by
        rw [List.length_map]
        omega
      refine st_i c3 ?_
      obtain ⟨v, ev⟩ := atI_ints (ns := f.cs) (j := f.at_ % ((f.cs.map RB.P.int).length : Nat)) (Int.emod_nonneg _ (by omega)) (by have := Int.emod_lt_of_pos f.at_ c3; rw [List.length_map] at this ⊢; exact this)
      refine st_ixL ev ?_
      exact tail v
    · exact st_next (tail _)
/-- what a pick may answer -/
def optsOf : RB.P → List RB.P
  | .str z => z.cps.toList.map fun c => .str ⟨#[c]⟩
  | .lst ps => ps
  | .tup ps => ps
  | _ => []
def sp__law_pick : DSp := fun ds S Q _ => ∃ (o : RB.P) (f : Feed) (R : Store), ds = [.cell 0, .p o] ∧ S = feedC f :: R ∧ FOk f ∧ f.at_ + 1 ≤ LIM ∧ optsOf o ≠ [] ∧ (optsOf o).length ≤ sizeLine ∧ ∀ p f', p ∈ optsOf o → Fed 1 f f' → Q (.p p) (feedC f' :: R)
theorem mon__law_pick : DMon sp__law_pick := fun ds S Q Q' E E' hq he ⟨m, f, R, h1, h2, h3, h4, h5, h6, h⟩ => ⟨m, f, R, h1, h2, h3, h4, h5, h6, fun d f' a b => hq _ _ (h d f' a b)⟩
theorem len__law_pick : ∀ ds S Q E, sp__law_pick ds S Q E → ds.length = 2 := fun ds S Q E ⟨_, _, _, h1, _⟩ => by rw [h1]; rfl
theorem atI_mem {α : Type} {xs : List α} {j : Int} (h0 : 0 ≤ j) (h1 : j < xs.length) : ∃ c, atI xs j = some c ∧ c ∈ xs := by
  obtain ⟨k, rfl⟩ := Int.eq_ofNat_of_zero_le h0
  have hk : k < xs.length := by omega
  exact ⟨xs[k], atI_nat (List.getElem?_eq_getElem hk), List.getElem_mem hk⟩
abbrev N__law_pick : List Str := [(Str.ofString "_law_feed_here"), (Str.ofString "_law_options")]
abbrev ps__law_pick : List Str := [(Str.ofString "_law_feed_here"), (Str.ofString "_law_options")]
abbrev w__law_pick : WS :=
  (wRet (wBin dIx (wVar 1) (wCall sp__law_draw [] (wCons (wVar 0) (wCons (wCB (b1 dLen) (wCons (wVar 1) wNil)) wNil)))))

theorem pur__law_pick : ∀ ds S Q E, sp__law_pick ds S Q E → w__law_pick (endsF S.length Q E) (startR N__law_pick ds) S := by
  rintro ds S Q E ⟨o, f, R, rfl, rfl, ok, hat, hn, hl, h⟩
  have e : startR N__law_pick [.cell 0, .p o] = [some (.cell 0), some (.p o)] := rfl
  rw [e]
  have hs : sizeLine < 2 ^ 62 := by decide
  have ln : 0 < (optsOf o).length := List.length_pos_iff.mpr hn
  repeat (first | with_reducible refine st_var (by with_unfolding_all exact rfl) ?_ | with_reducible refine st_seq ?_ | with_reducible refine st_set ?_ | with_reducible refine st_bin ?_ | with_reducible refine st_c ?_ | with_reducible refine st_cb ?_ | with_reducible refine st_cons ?_ | with_reducible refine st_nil ?_ | with_reducible refine st_b1 ?_ | with_reducible refine st_b2 ?_ | with_reducible refine st_test ?_ | with_reducible refine st_ifS ?_ | with_reducible refine st_ret ?_ | with_reducible refine st_retN ?_ | with_reducible refine st_drop ?_ | with_reducible refine st_next ?_ | with_reducible refine st_un ?_ | with_reducible refine st_call ?_ | with_reducible refine st_callK ?_ | with_reducible refine st_and ?_ | with_reducible refine st_or ?_ | with_reducible refine st_not ?_ | with_reducible refine st_yes ?_ | with_reducible refine st_andV ?_ | with_reducible refine st_orV ?_ | with_reducible refine st_notV ?_ | with_reducible refine st_if ?_ | with_reducible refine st_chain ?_ | with_reducible refine st_disp ?_ | with_reducible refine st_newL ?_ | with_reducible refine st_sl ?_ | with_reducible refine st_noP ?_ | with_reducible refine st_part ?_ | with_reducible refine st_dput ?_ | with_reducible refine st_join ?_ | with_reducible refine st_lc ?_ | with_reducible refine st_rng ?_ | with_reducible refine st_it ?_ | with_reducible refine st_for ?_ | with_reducible refine st_isi2 ?_ | with_reducible refine st_dnew ?_ | with_reducible refine st_dict ?_ | with_reducible refine st_pcons ?_ | with_reducible refine st_pnil ?_ | with_reducible refine st_addI ?_ | with_reducible refine st_i0 ?_ | with_reducible refine st_toInt ?_ | with_reducible refine st_i1 ?_ | with_reducible refine st_neg ?_ | with_reducible refine st_lenL ?_ | with_reducible refine st_lenT ?_ | with_reducible refine st_lenC ?_ | with_reducible refine st_lstL ?_ | with_reducible refine st_lstT ?_ | with_reducible refine st_tupL ?_ | with_reducible refine st_tupT ?_ | with_reducible refine st_reprB ?_ | with_reducible refine st_inS ?_ | with_reducible refine st_getL ?_ | with_reducible refine st_getA ?_ | with_reducible refine st_getC ?_ | with_reducible refine st_putL ?_ | with_reducible refine st_putA ?_ | refine st_dok (by exact Nat.le_of_ble_eq_true rfl) ?_ | refine st_kvs (by decide +kernel) (by decide) ?_)
  cases o with
  | str z =>
    have lz : z.length = (optsOf (.str z)).length := by
      show z.cps.size = (z.cps.toList.map _).length
      rw [List.length_map, Array.length_toList]
    refine st_lenS (by omega) ?_
    refine ⟨_, f, R, rfl, rfl, ok, hat, by omega, by omega, fun d f' h0 h1 fd => ?_⟩
    obtain ⟨c, ec, mc⟩ := atI_mem (xs := z.cps.toList) h0 (by rw [Array.length_toList]; exact h1)
    refine st_ixS (by omega) ec ?_
    exact st_rtP rfl (h _ _ (List.mem_map.mpr ⟨c, mc, rfl⟩) fd)
  | lst ps =>
    have lz : ps.length = (optsOf (.lst ps)).length := rfl
    refine st_lenL ?_
    refine ⟨_, f, R, rfl, rfl, ok, hat, by omega, by omega, fun d f' h0 h1 fd => ?_⟩
    obtain ⟨c, ec, mc⟩ := atI_mem (xs := ps) h0 h1
    refine st_ixL ec ?_
    exact st_rtP rfl (h _ _ mc fd)
  | tup ps =>
    have lz : ps.length = (optsOf (.tup ps)).length := rfl
    refine st_lenT ?_
    refine ⟨_, f, R, rfl, rfl, ok, hat, by omega, by omega, fun d f' h0 h1 fd => ?_⟩
    obtain ⟨c, ec, mc⟩ := atI_mem (xs := ps) h0 h1
    refine st_ixT ec ?_
    exact st_rtP rfl (h _ _ mc fd)
  | non => exact (hn rfl).elim
  | bl _ => exact (hn rfl).elim
  | int _ => exact (hn rfl).elim
  | ty _ => exact (hn rfl).elim
  | scr _ => exact (hn rfl).elim
  | dK _ _ => exact (hn rfl).elim
  | dT _ _ => exact (hn rfl).elim
  | obj _ _ _ => exact (hn rfl).elim
/-! ### texts of plain signs -/
def asc (z : Str) : Prop := ∀ c ∈ z.cps.toList, c < 128
theorem app_l (a b : Str) : (a ++ b).cps.toList = a.cps.toList ++ b.cps.toList := PySem.W.KT.app_list a b
theorem len_l (a : Str) : a.cps.toList.length = a.length := Array.length_toList
theorem asc_app {a b : Str} (ha : asc a) (hb : asc b) : asc (a ++ b) := fun c m => by
  rw [app_l, List.mem_append] at m
  exact m.elim (ha c) (hb c)
theorem asc_one {c : Nat} (h : c < 128) : asc ⟨#[c]⟩ := fun x m => by
  have e : x = c := by simpa using m
  omega
theorem mem_cutS {z : Str} {lo hi : Option Int} {c : Nat} (m : c ∈ (cutS z lo hi).cps.toList) : c ∈ z.cps.toList := by
  have m' : c ∈ (z.cps.toList.drop (HT.sIx z.length 0 lo)).take (HT.sIx z.length z.length hi - HT.sIx z.length 0 lo) := m
  exact List.mem_of_mem_drop (List.mem_of_mem_take m')
theorem asc_cut {z : Str} {lo hi : Option Int} (h : asc z) : asc (cutS z lo hi) := fun c m => h c (mem_cutS m)
theorem strsP_map {α : Type} (f : α → Str) : ∀ cs : List α, strsP (cs.map fun c => RB.P.str (f c)) = some (cs.map f)
  | [] => rfl
  | c :: cs => by
    show (strsP (cs.map fun c => RB.P.str (f c))).map _ = _
    rw [strsP_map f cs]
    rfl
theorem asc_sjoin {a : Str} (ha : asc a) : ∀ {ys : List Str}, (∀ y ∈ ys, asc y) → asc (Str.join a ys)
  | [], _ => fun c m => by cases m
  | [x], h => h x (List.mem_cons_self ..)
  | x :: y :: r, h => asc_app (asc_app (h x (List.mem_cons_self ..)) ha) (asc_sjoin ha fun z m => h z (List.mem_cons_of_mem _ m))
theorem join_is (a : Str) (ys : List Str) : Txt.join a ys = Str.join a ys := StrLaws.glued_eq_join a ys
theorem asc_join {a : Str} (ha : asc a) {ys : List Str} (h : ∀ y ∈ ys, asc y) : asc (Txt.join a ys) := by
  rw [join_is]
  exact asc_sjoin ha h
theorem len_join_le {a : Str} {ys : List Str} : (Txt.join a ys).length ≤ (ys.map (·.length)).sum + ys.length * a.length := by
  rw [join_is]
  exact StrLaws.join_length_le a ys
theorem sum_ones {α : Type} {f : α → Str} : ∀ {cs : List α}, (∀ c ∈ cs, (f c).length = 1) → ((cs.map f).map (·.length)).sum = cs.length
  | [], _ => rfl
  | c :: cs, h => by
    simp only [List.map_cons, List.sum_cons, List.length_cons]
    rw [sum_ones fun x m => h x (List.mem_cons_of_mem _ m), h c (List.mem_cons_self ..)]
    omega
/-! ### names and levels -/
abbrev abc : Str := Str.ofString "abcdefghijklmnopqrstuvwxyz"
def isName : RB.P → Bool
  | .str z => decide (1 ≤ z.length) && decide (z.length ≤ 8) && z.cps.toList.all fun c => decide (c ∈ abc.cps.toList)
  | _ => false
def isInt : RB.P → Bool
  | .int _ => true
  | _ => false
/-- a value whose kind is told: no script, no class; its text is not too long -/
def tame : RB.P → Prop
  | .ty _ => False
  | .scr _ => False
  | .obj _ _ _ => False
  | .str z => z.length ≤ 1000 ∧ ∀ c ∈ z.cps.toList, c < 128
  | _ => True
theorem bls_map {α : Type} (f : α → Bool) : ∀ cs : List α, bls (cs.map fun c => RB.P.bl (f c)) = some (cs.map f)
  | [] => rfl
  | c :: cs => by
    show (bls (cs.map fun c => RB.P.bl (f c))).map _ = _
    rw [bls_map f cs]
    rfl
theorem pds_strs {α : Type} (f : α → Str) : ∀ cs : List α, pds (cs.map fun c => RB.P.str (f c)) = some (cs.map fun c => PyData.str (f c))
  | [] => rfl
  | c :: cs => by
    show pds (RB.P.str (f c) :: cs.map fun c => RB.P.str (f c)) = _
    rw [pds, pds_strs f cs]
    rfl
theorem canLay_strs {α : Type} (f : α → Str) : ∀ cs : List α, (∀ c ∈ cs, PyData.strOk (f c) = true) → PyData.canLayAll0 (cs.map fun c => PyData.str (f c)) = true
  | [], _ => rfl
  | c :: cs, h => by
    simp only [List.map_cons, PyData.canLayAll0, PyData.canLay0, Bool.and_eq_true]
    exact ⟨h c (List.mem_cons_self ..), canLay_strs f cs fun x m => h x (List.mem_cons_of_mem _ m)⟩
theorem depth_strs {α : Type} (f : α → Str) : ∀ cs : List α, PyData.depthAll (cs.map fun c => PyData.str (f c)) = 0
  | [] => rfl
  | c :: cs => by
    simp only [List.map_cons, PyData.depthAll, PyData.depth, depth_strs f cs]
    rfl
theorem shaped_strs {α : Type} (f : α → Str) (cs : List α) (h : ∀ c ∈ cs, PyData.strOk (f c) = true) : SeqAt.shaped (.list (cs.map fun c => PyData.str (f c))) = true := by
  simp [SeqAt.shaped, PyData.canLay0, PyData.depth, canLay_strs f cs h, depth_strs f cs]
theorem eqv_list_nil (xs : List PyData) : PyData.eqv (.list xs) (.list []) = xs.isEmpty := by
  cases xs <;> simp [PyData.eqv, PyData.eqvAll]
theorem filter_yes {α : Type} (xs : List α) : xs.filter (fun _ => true) = xs := List.filter_eq_self.mpr fun _ _ => rfl
theorem all_filter {α β : Type} (p : α → Bool) (g : α → β) : ∀ xs : List α, xs.all p = ((xs.filter fun c => !p c).map g).isEmpty
  | [] => rfl
  | x :: xs => by
    rw [List.all_cons, List.filter_cons]
    cases p x with
    | true => rw [Bool.true_and, all_filter p g xs, if_neg (by simp)]
    | false => rfl
/-- the one sign of a text -/
def sgn : RB.D → Nat
  | .p (.str z) => z.cps.toList.headD 0
  | _ => 0
theorem isName_str {z : Str} {b : Bool} (h : (decide (1 ≤ (z.length : Int)) && decide ((z.length : Int) ≤ 8) && z.cps.toList.all fun c => decide (c ∈ abc.cps.toList)) = b) : isName (.str z) = b := by
  rw [← h]
  show (decide (1 ≤ z.length) && decide (z.length ≤ 8) && _) = _
  congr 2
  · exact decide_eq_decide.mpr (by omega)
  · exact decide_eq_decide.mpr (by omega)
def sp_is_name : DSp := fun ds S Q _ => ∃ v : RB.P, ds = [.p v] ∧ tame v ∧ Q (.p (.bl (isName v))) S
theorem mon_is_name : DMon sp_is_name := fun ds S Q Q' E E' hq he ⟨m, h1, h2, h⟩ => ⟨m, h1, h2, hq _ _ h⟩
theorem len_is_name : ∀ ds S Q E, sp_is_name ds S Q E → ds.length = 1 := fun ds S Q E ⟨_, h1, _⟩ => by rw [h1]; rfl
def sp_is_level : DSp := fun ds S Q _ => ∃ v : RB.P, ds = [.p v] ∧ tame v ∧ Q (.p (.bl (isInt v))) S
theorem mon_is_level : DMon sp_is_level := fun ds S Q Q' E E' hq he ⟨m, h1, h2, h⟩ => ⟨m, h1, h2, hq _ _ h⟩
theorem len_is_level : ∀ ds S Q E, sp_is_level ds S Q E → ds.length = 1 := fun ds S Q E ⟨_, h1, _⟩ => by rw [h1]; rfl
abbrev N_is_name : List Str := [(Str.ofString "value"), (Str.ofString "sign")]
abbrev ps_is_name : List Str := [(Str.ofString "value")]
abbrev w_is_name_1 : WE := wBin (dInS false) (wVar 1) (wC (.p (.str (Str.ofString "abcdefghijklmnopqrstuvwxyz"))))
abbrev w_is_name_2 : WS := wRet (wCB (b1 dAll) (wCons (wLC (wIt (wVar 0)) (.nm 1) wYes w_is_name_1 [1]) wNil))
abbrev w_is_name_3 : WS := wSeq (wIfS (wOr (wNot (wTest (wCB (b2 dIsi) (wCons (wVar 0) (wCons (wC (.p (.ty "str"))) wNil))))) (wNot (wTest (wChain dLe dLe (wC (.p (.int 1))) (wCB (b1 dLen) (wCons (wVar 0) wNil)) (wC (.p (.int 8))))))) (wRet (wC (.p (.bl false)))) wNext) w_is_name_2
abbrev w_is_name : WS :=
  w_is_name_3

abbrev N_is_level : List Str := [(Str.ofString "value")]
abbrev ps_is_level : List Str := [(Str.ofString "value")]
abbrev w_is_level : WS :=
  (wRet (wAndV (wCB (b2 dIsi) (wCons (wVar 0) (wCons (wC (.p (.ty "int"))) wNil))) (wNotV (wCB (b2 dIsi) (wCons (wVar 0) (wCons (wC (.p (.ty "bool"))) wNil))))))

theorem pur_is_level : ∀ ds S Q E, sp_is_level ds S Q E → w_is_level (endsF S.length Q E) (startR N_is_level ds) S := by
  rintro ds S Q E ⟨v, rfl, ht, h⟩
  have e : startR N_is_level [.p v] = [some (.p v)] := rfl
  rw [e]
  repeat (first | with_reducible refine st_var (by with_unfolding_all exact rfl) ?_ | with_reducible refine st_seq ?_ | with_reducible refine st_set ?_ | with_reducible refine st_bin ?_ | with_reducible refine st_c ?_ | with_reducible refine st_cb ?_ | with_reducible refine st_cons ?_ | with_reducible refine st_nil ?_ | with_reducible refine st_b1 ?_ | with_reducible refine st_b2 ?_ | with_reducible refine st_test ?_ | with_reducible refine st_ifS ?_ | with_reducible refine st_ret ?_ | with_reducible refine st_retN ?_ | with_reducible refine st_drop ?_ | with_reducible refine st_next ?_ | with_reducible refine st_un ?_ | with_reducible refine st_call ?_ | with_reducible refine st_callK ?_ | with_reducible refine st_and ?_ | with_reducible refine st_or ?_ | with_reducible refine st_not ?_ | with_reducible refine st_yes ?_ | with_reducible refine st_andV ?_ | with_reducible refine st_orV ?_ | with_reducible refine st_notV ?_ | with_reducible refine st_if ?_ | with_reducible refine st_chain ?_ | with_reducible refine st_disp ?_ | with_reducible refine st_newL ?_ | with_reducible refine st_sl ?_ | with_reducible refine st_noP ?_ | with_reducible refine st_part ?_ | with_reducible refine st_dput ?_ | with_reducible refine st_join ?_ | with_reducible refine st_lc ?_ | with_reducible refine st_rng ?_ | with_reducible refine st_it ?_ | with_reducible refine st_for ?_ | with_reducible refine st_isi2 ?_ | with_reducible refine st_dnew ?_ | with_reducible refine st_dict ?_ | with_reducible refine st_pcons ?_ | with_reducible refine st_pnil ?_ | with_reducible refine st_addI ?_ | with_reducible refine st_i0 ?_ | with_reducible refine st_toInt ?_ | with_reducible refine st_i1 ?_ | with_reducible refine st_neg ?_ | with_reducible refine st_lenL ?_ | with_reducible refine st_lenT ?_ | with_reducible refine st_lenC ?_ | with_reducible refine st_lstL ?_ | with_reducible refine st_lstT ?_ | with_reducible refine st_tupL ?_ | with_reducible refine st_tupT ?_ | with_reducible refine st_reprB ?_ | with_reducible refine st_inS ?_ | with_reducible refine st_getL ?_ | with_reducible refine st_getA ?_ | with_reducible refine st_getC ?_ | with_reducible refine st_putL ?_ | with_reducible refine st_putA ?_ | refine st_dok (by exact Nat.le_of_ble_eq_true rfl) ?_ | refine st_kvs (by decide +kernel) (by decide) ?_)
  cases v with
  | int i =>
    refine st_isiB (b := true) (by decide) rfl (by decide) ?_
    repeat (first | with_reducible refine st_var (by with_unfolding_all exact rfl) ?_ | with_reducible refine st_seq ?_ | with_reducible refine st_set ?_ | with_reducible refine st_bin ?_ | with_reducible refine st_c ?_ | with_reducible refine st_cb ?_ | with_reducible refine st_cons ?_ | with_reducible refine st_nil ?_ | with_reducible refine st_b1 ?_ | with_reducible refine st_b2 ?_ | with_reducible refine st_test ?_ | with_reducible refine st_ifS ?_ | with_reducible refine st_ret ?_ | with_reducible refine st_retN ?_ | with_reducible refine st_drop ?_ | with_reducible refine st_next ?_ | with_reducible refine st_un ?_ | with_reducible refine st_call ?_ | with_reducible refine st_callK ?_ | with_reducible refine st_and ?_ | with_reducible refine st_or ?_ | with_reducible refine st_not ?_ | with_reducible refine st_yes ?_ | with_reducible refine st_andV ?_ | with_reducible refine st_orV ?_ | with_reducible refine st_notV ?_ | with_reducible refine st_if ?_ | with_reducible refine st_chain ?_ | with_reducible refine st_disp ?_ | with_reducible refine st_newL ?_ | with_reducible refine st_sl ?_ | with_reducible refine st_noP ?_ | with_reducible refine st_part ?_ | with_reducible refine st_dput ?_ | with_reducible refine st_join ?_ | with_reducible refine st_lc ?_ | with_reducible refine st_rng ?_ | with_reducible refine st_it ?_ | with_reducible refine st_for ?_ | with_reducible refine st_isi2 ?_ | with_reducible refine st_dnew ?_ | with_reducible refine st_dict ?_ | with_reducible refine st_pcons ?_ | with_reducible refine st_pnil ?_ | with_reducible refine st_addI ?_ | with_reducible refine st_i0 ?_ | with_reducible refine st_toInt ?_ | with_reducible refine st_i1 ?_ | with_reducible refine st_neg ?_ | with_reducible refine st_lenL ?_ | with_reducible refine st_lenT ?_ | with_reducible refine st_lenC ?_ | with_reducible refine st_lstL ?_ | with_reducible refine st_lstT ?_ | with_reducible refine st_tupL ?_ | with_reducible refine st_tupT ?_ | with_reducible refine st_reprB ?_ | with_reducible refine st_inS ?_ | with_reducible refine st_getL ?_ | with_reducible refine st_getA ?_ | with_reducible refine st_getC ?_ | with_reducible refine st_putL ?_ | with_reducible refine st_putA ?_ | refine st_dok (by exact Nat.le_of_ble_eq_true rfl) ?_ | refine st_kvs (by decide +kernel) (by decide) ?_)
    refine st_isiB (b := false) (by decide) rfl (by decide) ?_
    exact st_rtP rfl h
  | bl b =>
    refine st_isiB (b := true) (by decide) rfl (by decide) ?_
    repeat (first | with_reducible refine st_var (by with_unfolding_all exact rfl) ?_ | with_reducible refine st_seq ?_ | with_reducible refine st_set ?_ | with_reducible refine st_bin ?_ | with_reducible refine st_c ?_ | with_reducible refine st_cb ?_ | with_reducible refine st_cons ?_ | with_reducible refine st_nil ?_ | with_reducible refine st_b1 ?_ | with_reducible refine st_b2 ?_ | with_reducible refine st_test ?_ | with_reducible refine st_ifS ?_ | with_reducible refine st_ret ?_ | with_reducible refine st_retN ?_ | with_reducible refine st_drop ?_ | with_reducible refine st_next ?_ | with_reducible refine st_un ?_ | with_reducible refine st_call ?_ | with_reducible refine st_callK ?_ | with_reducible refine st_and ?_ | with_reducible refine st_or ?_ | with_reducible refine st_not ?_ | with_reducible refine st_yes ?_ | with_reducible refine st_andV ?_ | with_reducible refine st_orV ?_ | with_reducible refine st_notV ?_ | with_reducible refine st_if ?_ | with_reducible refine st_chain ?_ | with_reducible refine st_disp ?_ | with_reducible refine st_newL ?_ | with_reducible refine st_sl ?_ | with_reducible refine st_noP ?_ | with_reducible refine st_part ?_ | with_reducible refine st_dput ?_ | with_reducible refine st_join ?_ | with_reducible refine st_lc ?_ | with_reducible refine st_rng ?_ | with_reducible refine st_it ?_ | with_reducible refine st_for ?_ | with_reducible refine st_isi2 ?_ | with_reducible refine st_dnew ?_ | with_reducible refine st_dict ?_ | with_reducible refine st_pcons ?_ | with_reducible refine st_pnil ?_ | with_reducible refine st_addI ?_ | with_reducible refine st_i0 ?_ | with_reducible refine st_toInt ?_ | with_reducible refine st_i1 ?_ | with_reducible refine st_neg ?_ | with_reducible refine st_lenL ?_ | with_reducible refine st_lenT ?_ | with_reducible refine st_lenC ?_ | with_reducible refine st_lstL ?_ | with_reducible refine st_lstT ?_ | with_reducible refine st_tupL ?_ | with_reducible refine st_tupT ?_ | with_reducible refine st_reprB ?_ | with_reducible refine st_inS ?_ | with_reducible refine st_getL ?_ | with_reducible refine st_getA ?_ | with_reducible refine st_getC ?_ | with_reducible refine st_putL ?_ | with_reducible refine st_putA ?_ | refine st_dok (by exact Nat.le_of_ble_eq_true rfl) ?_ | refine st_kvs (by decide +kernel) (by decide) ?_)
    refine st_isiB (b := true) (by decide) rfl (by decide) ?_
    exact st_rtP rfl h
  | ty _ => exact ht.elim
  | scr _ => exact ht.elim
  | obj _ _ _ => exact ht.elim
  | _ =>
    refine st_isiB (b := false) (by decide) rfl (by decide) ?_
    exact st_rtP rfl h
theorem pur_is_name : ∀ ds S Q E, sp_is_name ds S Q E → w_is_name (endsF S.length Q E) (startR N_is_name ds) S := by
  rintro ds S Q E ⟨v, rfl, ht, h⟩
  have e : startR N_is_name [.p v] = [some (.p v), none] := rfl
  rw [e]
  repeat (first | with_reducible refine st_var (by with_unfolding_all exact rfl) ?_ | with_reducible refine st_seq ?_ | with_reducible refine st_set ?_ | with_reducible refine st_bin ?_ | with_reducible refine st_c ?_ | with_reducible refine st_cb ?_ | with_reducible refine st_cons ?_ | with_reducible refine st_nil ?_ | with_reducible refine st_b1 ?_ | with_reducible refine st_b2 ?_ | with_reducible refine st_test ?_ | with_reducible refine st_ifS ?_ | with_reducible refine st_ret ?_ | with_reducible refine st_retN ?_ | with_reducible refine st_drop ?_ | with_reducible refine st_next ?_ | with_reducible refine st_un ?_ | with_reducible refine st_call ?_ | with_reducible refine st_callK ?_ | with_reducible refine st_and ?_ | with_reducible refine st_or ?_ | with_reducible refine st_not ?_ | with_reducible refine st_yes ?_ | with_reducible refine st_andV ?_ | with_reducible refine st_orV ?_ | with_reducible refine st_notV ?_ | with_reducible refine st_if ?_ | with_reducible refine st_chain ?_ | with_reducible refine st_disp ?_ | with_reducible refine st_newL ?_ | with_reducible refine st_sl ?_ | with_reducible refine st_noP ?_ | with_reducible refine st_part ?_ | with_reducible refine st_dput ?_ | with_reducible refine st_join ?_ | with_reducible refine st_lc ?_ | with_reducible refine st_rng ?_ | with_reducible refine st_it ?_ | with_reducible refine st_for ?_ | with_reducible refine st_isi2 ?_ | with_reducible refine st_dnew ?_ | with_reducible refine st_dict ?_ | with_reducible refine st_pcons ?_ | with_reducible refine st_pnil ?_ | with_reducible refine st_addI ?_ | with_reducible refine st_i0 ?_ | with_reducible refine st_toInt ?_ | with_reducible refine st_i1 ?_ | with_reducible refine st_neg ?_ | with_reducible refine st_lenL ?_ | with_reducible refine st_lenT ?_ | with_reducible refine st_lenC ?_ | with_reducible refine st_lstL ?_ | with_reducible refine st_lstT ?_ | with_reducible refine st_tupL ?_ | with_reducible refine st_tupT ?_ | with_reducible refine st_reprB ?_ | with_reducible refine st_inS ?_ | with_reducible refine st_getL ?_ | with_reducible refine st_getA ?_ | with_reducible refine st_getC ?_ | with_reducible refine st_putL ?_ | with_reducible refine st_putA ?_ | refine st_dok (by exact Nat.le_of_ble_eq_true rfl) ?_ | refine st_kvs (by decide +kernel) (by decide) ?_)
  cases v with
  | ty _ => exact ht.elim
  | scr _ => exact ht.elim
  | obj _ _ _ => exact ht.elim
  | str z =>
    have ht1 : z.length ≤ 1000 := ht.1
    have hs : 1000 ≤ sizeLine := by decide
    refine st_isiB (b := true) (by decide) rfl (by decide) ?_
    refine iteF ?_
    repeat (first | with_reducible refine st_var (by with_unfolding_all exact rfl) ?_ | with_reducible refine st_seq ?_ | with_reducible refine st_set ?_ | with_reducible refine st_bin ?_ | with_reducible refine st_c ?_ | with_reducible refine st_cb ?_ | with_reducible refine st_cons ?_ | with_reducible refine st_nil ?_ | with_reducible refine st_b1 ?_ | with_reducible refine st_b2 ?_ | with_reducible refine st_test ?_ | with_reducible refine st_ifS ?_ | with_reducible refine st_ret ?_ | with_reducible refine st_retN ?_ | with_reducible refine st_drop ?_ | with_reducible refine st_next ?_ | with_reducible refine st_un ?_ | with_reducible refine st_call ?_ | with_reducible refine st_callK ?_ | with_reducible refine st_and ?_ | with_reducible refine st_or ?_ | with_reducible refine st_not ?_ | with_reducible refine st_yes ?_ | with_reducible refine st_andV ?_ | with_reducible refine st_orV ?_ | with_reducible refine st_notV ?_ | with_reducible refine st_if ?_ | with_reducible refine st_chain ?_ | with_reducible refine st_disp ?_ | with_reducible refine st_newL ?_ | with_reducible refine st_sl ?_ | with_reducible refine st_noP ?_ | with_reducible refine st_part ?_ | with_reducible refine st_dput ?_ | with_reducible refine st_join ?_ | with_reducible refine st_lc ?_ | with_reducible refine st_rng ?_ | with_reducible refine st_it ?_ | with_reducible refine st_for ?_ | with_reducible refine st_isi2 ?_ | with_reducible refine st_dnew ?_ | with_reducible refine st_dict ?_ | with_reducible refine st_pcons ?_ | with_reducible refine st_pnil ?_ | with_reducible refine st_addI ?_ | with_reducible refine st_i0 ?_ | with_reducible refine st_toInt ?_ | with_reducible refine st_i1 ?_ | with_reducible refine st_neg ?_ | with_reducible refine st_lenL ?_ | with_reducible refine st_lenT ?_ | with_reducible refine st_lenC ?_ | with_reducible refine st_lstL ?_ | with_reducible refine st_lstT ?_ | with_reducible refine st_tupL ?_ | with_reducible refine st_tupT ?_ | with_reducible refine st_reprB ?_ | with_reducible refine st_inS ?_ | with_reducible refine st_getL ?_ | with_reducible refine st_getA ?_ | with_reducible refine st_getC ?_ | with_reducible refine st_putL ?_ | with_reducible refine st_putA ?_ | refine st_dok (by exact Nat.le_of_ble_eq_true rfl) ?_ | refine st_kvs (by decide +kernel) (by decide) ?_)
    refine st_lenS (by omega) ?_
    repeat (first | with_reducible refine st_var (by with_unfolding_all exact rfl) ?_ | with_reducible refine st_seq ?_ | with_reducible refine st_set ?_ | with_reducible refine st_bin ?_ | with_reducible refine st_c ?_ | with_reducible refine st_cb ?_ | with_reducible refine st_cons ?_ | with_reducible refine st_nil ?_ | with_reducible refine st_b1 ?_ | with_reducible refine st_b2 ?_ | with_reducible refine st_test ?_ | with_reducible refine st_ifS ?_ | with_reducible refine st_ret ?_ | with_reducible refine st_retN ?_ | with_reducible refine st_drop ?_ | with_reducible refine st_next ?_ | with_reducible refine st_un ?_ | with_reducible refine st_call ?_ | with_reducible refine st_callK ?_ | with_reducible refine st_and ?_ | with_reducible refine st_or ?_ | with_reducible refine st_not ?_ | with_reducible refine st_yes ?_ | with_reducible refine st_andV ?_ | with_reducible refine st_orV ?_ | with_reducible refine st_notV ?_ | with_reducible refine st_if ?_ | with_reducible refine st_chain ?_ | with_reducible refine st_disp ?_ | with_reducible refine st_newL ?_ | with_reducible refine st_sl ?_ | with_reducible refine st_noP ?_ | with_reducible refine st_part ?_ | with_reducible refine st_dput ?_ | with_reducible refine st_join ?_ | with_reducible refine st_lc ?_ | with_reducible refine st_rng ?_ | with_reducible refine st_it ?_ | with_reducible refine st_for ?_ | with_reducible refine st_isi2 ?_ | with_reducible refine st_dnew ?_ | with_reducible refine st_dict ?_ | with_reducible refine st_pcons ?_ | with_reducible refine st_pnil ?_ | with_reducible refine st_addI ?_ | with_reducible refine st_i0 ?_ | with_reducible refine st_toInt ?_ | with_reducible refine st_i1 ?_ | with_reducible refine st_neg ?_ | with_reducible refine st_lenL ?_ | with_reducible refine st_lenT ?_ | with_reducible refine st_lenC ?_ | with_reducible refine st_lstL ?_ | with_reducible refine st_lstT ?_ | with_reducible refine st_tupL ?_ | with_reducible refine st_tupT ?_ | with_reducible refine st_reprB ?_ | with_reducible refine st_inS ?_ | with_reducible refine st_getL ?_ | with_reducible refine st_getA ?_ | with_reducible refine st_getC ?_ | with_reducible refine st_putL ?_ | with_reducible refine st_putA ?_ | refine st_dok (by exact Nat.le_of_ble_eq_true rfl) ?_ | refine st_kvs (by decide +kernel) (by decide) ?_)
    cases c1 : decide (1 ≤ (z.length : Int)) with
    | false =>
      refine iteT ?_
      refine st_ret (st_c ?_)
      rw [isName_str (b := false) (by rw [c1]; rfl)] at h
      exact st_rtP rfl h
    | true =>
      repeat (first | with_reducible refine st_var (by with_unfolding_all exact rfl) ?_ | with_reducible refine st_seq ?_ | with_reducible refine st_set ?_ | with_reducible refine st_bin ?_ | with_reducible refine st_c ?_ | with_reducible refine st_cb ?_ | with_reducible refine st_cons ?_ | with_reducible refine st_nil ?_ | with_reducible refine st_b1 ?_ | with_reducible refine st_b2 ?_ | with_reducible refine st_test ?_ | with_reducible refine st_ifS ?_ | with_reducible refine st_ret ?_ | with_reducible refine st_retN ?_ | with_reducible refine st_drop ?_ | with_reducible refine st_next ?_ | with_reducible refine st_un ?_ | with_reducible refine st_call ?_ | with_reducible refine st_callK ?_ | with_reducible refine st_and ?_ | with_reducible refine st_or ?_ | with_reducible refine st_not ?_ | with_reducible refine st_yes ?_ | with_reducible refine st_andV ?_ | with_reducible refine st_orV ?_ | with_reducible refine st_notV ?_ | with_reducible refine st_if ?_ | with_reducible refine st_chain ?_ | with_reducible refine st_disp ?_ | with_reducible refine st_newL ?_ | with_reducible refine st_sl ?_ | with_reducible refine st_noP ?_ | with_reducible refine st_part ?_ | with_reducible refine st_dput ?_ | with_reducible refine st_join ?_ | with_reducible refine st_lc ?_ | with_reducible refine st_rng ?_ | with_reducible refine st_it ?_ | with_reducible refine st_for ?_ | with_reducible refine st_isi2 ?_ | with_reducible refine st_dnew ?_ | with_reducible refine st_dict ?_ | with_reducible refine st_pcons ?_ | with_reducible refine st_pnil ?_ | with_reducible refine st_addI ?_ | with_reducible refine st_i0 ?_ | with_reducible refine st_toInt ?_ | with_reducible refine st_i1 ?_ | with_reducible refine st_neg ?_ | with_reducible refine st_lenL ?_ | with_reducible refine st_lenT ?_ | with_reducible refine st_lenC ?_ | with_reducible refine st_lstL ?_ | with_reducible refine st_lstT ?_ | with_reducible refine st_tupL ?_ | with_reducible refine st_tupT ?_ | with_reducible refine st_reprB ?_ | with_reducible refine st_inS ?_ | with_reducible refine st_getL ?_ | with_reducible refine st_getA ?_ | with_reducible refine st_getC ?_ | with_reducible refine st_putL ?_ | with_reducible refine st_putA ?_ | refine st_dok (by exact Nat.le_of_ble_eq_true rfl) ?_ | refine st_kvs (by decide +kernel) (by decide) ?_)
      cases c2 : decide ((z.length : Int) ≤ 8) with
      | false =>
        refine iteT ?_
        refine st_ret (st_c ?_)
        rw [isName_str (b := false) (by rw [c1, c2]; rfl)] at h
        exact st_rtP rfl h
      | true =>
        refine iteF ?_
        repeat (first | with_reducible refine st_var (by with_unfolding_all exact rfl) ?_ | with_reducible refine st_seq ?_ | with_reducible refine st_set ?_ | with_reducible refine st_bin ?_ | with_reducible refine st_c ?_ | with_reducible refine st_cb ?_ | with_reducible refine st_cons ?_ | with_reducible refine st_nil ?_ | with_reducible refine st_b1 ?_ | with_reducible refine st_b2 ?_ | with_reducible refine st_test ?_ | with_reducible refine st_ifS ?_ | with_reducible refine st_ret ?_ | with_reducible refine st_retN ?_ | with_reducible refine st_drop ?_ | with_reducible refine st_next ?_ | with_reducible refine st_un ?_ | with_reducible refine st_call ?_ | with_reducible refine st_callK ?_ | with_reducible refine st_and ?_ | with_reducible refine st_or ?_ | with_reducible refine st_not ?_ | with_reducible refine st_yes ?_ | with_reducible refine st_andV ?_ | with_reducible refine st_orV ?_ | with_reducible refine st_notV ?_ | with_reducible refine st_if ?_ | with_reducible refine st_chain ?_ | with_reducible refine st_disp ?_ | with_reducible refine st_newL ?_ | with_reducible refine st_sl ?_ | with_reducible refine st_noP ?_ | with_reducible refine st_part ?_ | with_reducible refine st_dput ?_ | with_reducible refine st_join ?_ | with_reducible refine st_lc ?_ | with_reducible refine st_rng ?_ | with_reducible refine st_it ?_ | with_reducible refine st_for ?_ | with_reducible refine st_isi2 ?_ | with_reducible refine st_dnew ?_ | with_reducible refine st_dict ?_ | with_reducible refine st_pcons ?_ | with_reducible refine st_pnil ?_ | with_reducible refine st_addI ?_ | with_reducible refine st_i0 ?_ | with_reducible refine st_toInt ?_ | with_reducible refine st_i1 ?_ | with_reducible refine st_neg ?_ | with_reducible refine st_lenL ?_ | with_reducible refine st_lenT ?_ | with_reducible refine st_lenC ?_ | with_reducible refine st_lstL ?_ | with_reducible refine st_lstT ?_ | with_reducible refine st_tupL ?_ | with_reducible refine st_tupT ?_ | with_reducible refine st_reprB ?_ | with_reducible refine st_inS ?_ | with_reducible refine st_getL ?_ | with_reducible refine st_getA ?_ | with_reducible refine st_getC ?_ | with_reducible refine st_putL ?_ | with_reducible refine st_putA ?_ | refine st_dok (by exact Nat.le_of_ble_eq_true rfl) ?_ | refine st_kvs (by decide +kernel) (by decide) ?_)
        refine lcRun_pure (t := fun _ => true) (g := fun d => .bl (decide (sgn d ∈ abc.cps.toList))) ?_ ?_ ?_
        · intro d hd
          obtain ⟨c, mc, rfl⟩ := List.mem_map.mp hd
          refine ⟨_, rfl, fun QT E q => q, fun _ Q E q => ?_⟩
          repeat (first | with_reducible refine st_var (by with_unfolding_all exact rfl) ?_ | with_reducible refine st_seq ?_ | with_reducible refine st_set ?_ | with_reducible refine st_bin ?_ | with_reducible refine st_c ?_ | with_reducible refine st_cb ?_ | with_reducible refine st_cons ?_ | with_reducible refine st_nil ?_ | with_reducible refine st_b1 ?_ | with_reducible refine st_b2 ?_ | with_reducible refine st_test ?_ | with_reducible refine st_ifS ?_ | with_reducible refine st_ret ?_ | with_reducible refine st_retN ?_ | with_reducible refine st_drop ?_ | with_reducible refine st_next ?_ | with_reducible refine st_un ?_ | with_reducible refine st_call ?_ | with_reducible refine st_callK ?_ | with_reducible refine st_and ?_ | with_reducible refine st_or ?_ | with_reducible refine st_not ?_ | with_reducible refine st_yes ?_ | with_reducible refine st_andV ?_ | with_reducible refine st_orV ?_ | with_reducible refine st_notV ?_ | with_reducible refine st_if ?_ | with_reducible refine st_chain ?_ | with_reducible refine st_disp ?_ | with_reducible refine st_newL ?_ | with_reducible refine st_sl ?_ | with_reducible refine st_noP ?_ | with_reducible refine st_part ?_ | with_reducible refine st_dput ?_ | with_reducible refine st_join ?_ | with_reducible refine st_lc ?_ | with_reducible refine st_rng ?_ | with_reducible refine st_it ?_ | with_reducible refine st_for ?_ | with_reducible refine st_isi2 ?_ | with_reducible refine st_dnew ?_ | with_reducible refine st_dict ?_ | with_reducible refine st_pcons ?_ | with_reducible refine st_pnil ?_ | with_reducible refine st_addI ?_ | with_reducible refine st_i0 ?_ | with_reducible refine st_toInt ?_ | with_reducible refine st_i1 ?_ | with_reducible refine st_neg ?_ | with_reducible refine st_lenL ?_ | with_reducible refine st_lenT ?_ | with_reducible refine st_lenC ?_ | with_reducible refine st_lstL ?_ | with_reducible refine st_lstT ?_ | with_reducible refine st_tupL ?_ | with_reducible refine st_tupT ?_ | with_reducible refine st_reprB ?_ | with_reducible refine st_inS ?_ | with_reducible refine st_getL ?_ | with_reducible refine st_getA ?_ | with_reducible refine st_getC ?_ | with_reducible refine st_putL ?_ | with_reducible refine st_putA ?_ | refine st_dok (by exact Nat.le_of_ble_eq_true rfl) ?_ | refine st_kvs (by decide +kernel) (by decide) ?_)
          exact q
        · show 0 + (z.cps.toList.map _).length ≤ sizeLine
          rw [List.length_map, Array.length_toList]
          have : z.cps.size = z.length := rfl
          omega
        · repeat (first | with_reducible refine st_var (by with_unfolding_all exact rfl) ?_ | with_reducible refine st_seq ?_ | with_reducible refine st_set ?_ | with_reducible refine st_bin ?_ | with_reducible refine st_c ?_ | with_reducible refine st_cb ?_ | with_reducible refine st_cons ?_ | with_reducible refine st_nil ?_ | with_reducible refine st_b1 ?_ | with_reducible refine st_b2 ?_ | with_reducible refine st_test ?_ | with_reducible refine st_ifS ?_ | with_reducible refine st_ret ?_ | with_reducible refine st_retN ?_ | with_reducible refine st_drop ?_ | with_reducible refine st_next ?_ | with_reducible refine st_un ?_ | with_reducible refine st_call ?_ | with_reducible refine st_callK ?_ | with_reducible refine st_and ?_ | with_reducible refine st_or ?_ | with_reducible refine st_not ?_ | with_reducible refine st_yes ?_ | with_reducible refine st_andV ?_ | with_reducible refine st_orV ?_ | with_reducible refine st_notV ?_ | with_reducible refine st_if ?_ | with_reducible refine st_chain ?_ | with_reducible refine st_disp ?_ | with_reducible refine st_newL ?_ | with_reducible refine st_sl ?_ | with_reducible refine st_noP ?_ | with_reducible refine st_part ?_ | with_reducible refine st_dput ?_ | with_reducible refine st_join ?_ | with_reducible refine st_lc ?_ | with_reducible refine st_rng ?_ | with_reducible refine st_it ?_ | with_reducible refine st_for ?_ | with_reducible refine st_isi2 ?_ | with_reducible refine st_dnew ?_ | with_reducible refine st_dict ?_ | with_reducible refine st_pcons ?_ | with_reducible refine st_pnil ?_ | with_reducible refine st_addI ?_ | with_reducible refine st_i0 ?_ | with_reducible refine st_toInt ?_ | with_reducible refine st_i1 ?_ | with_reducible refine st_neg ?_ | with_reducible refine st_lenL ?_ | with_reducible refine st_lenT ?_ | with_reducible refine st_lenC ?_ | with_reducible refine st_lstL ?_ | with_reducible refine st_lstT ?_ | with_reducible refine st_tupL ?_ | with_reducible refine st_tupT ?_ | with_reducible refine st_reprB ?_ | with_reducible refine st_inS ?_ | with_reducible refine st_getL ?_ | with_reducible refine st_getA ?_ | with_reducible refine st_getC ?_ | with_reducible refine st_putL ?_ | with_reducible refine st_putA ?_ | refine st_dok (by exact Nat.le_of_ble_eq_true rfl) ?_ | refine st_kvs (by decide +kernel) (by decide) ?_)
          have ek : (List.filter (fun _ => true) (z.cps.toList.map fun c => RB.D.p (.str ⟨#[c]⟩))).map (fun d => RB.P.bl (decide (sgn d ∈ abc.cps.toList))) = z.cps.toList.map fun c => RB.P.bl (decide (c ∈ abc.cps.toList)) := by
            rw [filter_yes, List.map_map]
            rfl
          unfold dAll dBls
          rw [List.nil_append, ek]
          show (match bls (z.cps.toList.map fun c => RB.P.bl (decide (c ∈ abc.cps.toList))) with
            | some bs => _
            | none => False)
          rw [bls_map]
          rw [isName_str rfl, c1, c2, Bool.and_true, Bool.true_and] at h
          refine st_rtP rfl ?_
          show Q (.p (.bl ((List.map _ _).all id))) S
          rw [List.all_map]
          exact h
  | _ =>
    refine st_isiB (b := false) (by decide) rfl (by decide) ?_
    refine iteT ?_
    refine iteT ?_
    refine st_ret (st_c ?_)
    exact st_rtP rfl h
def sp__law_is_word : DSp := sp_is_name
theorem mon__law_is_word : DMon sp__law_is_word := mon_is_name
theorem len__law_is_word : ∀ ds S Q E, sp__law_is_word ds S Q E → ds.length = 1 := len_is_name
def sp__law_is_int : DSp := sp_is_level
theorem mon__law_is_int : DMon sp__law_is_int := mon_is_level
theorem len__law_is_int : ∀ ds S Q E, sp__law_is_int ds S Q E → ds.length = 1 := len_is_level
abbrev N__law_is_int : List Str := [(Str.ofString "_law_thing")]
abbrev ps__law_is_int : List Str := [(Str.ofString "_law_thing")]
abbrev w__law_is_int : WS :=
  (wRet (wAndV (wCB (b2 dIsi) (wCons (wVar 0) (wCons (wC (.p (.ty "int"))) wNil))) (wNotV (wCB (b2 dIsi) (wCons (wVar 0) (wCons (wC (.p (.ty "bool"))) wNil))))))

abbrev N__law_is_word : List Str := [(Str.ofString "_law_thing"), (Str.ofString "_law_sign")]
abbrev ps__law_is_word : List Str := [(Str.ofString "_law_thing")]
abbrev w__law_is_word_1 : WE := wVar 1
abbrev w__law_is_word_2 : WT := wTest (wBin (dInS true) (wVar 1) (wC (.p (.str (Str.ofString "abcdefghijklmnopqrstuvwxyz")))))
abbrev w__law_is_word_3 : WS := wRet (wBin (dEqv false) (wLC (wIt (wVar 0)) (.nm 1) w__law_is_word_2 w__law_is_word_1 [1]) (wDisp .lst wNil))
abbrev w__law_is_word_4 : WS := wSeq (wIfS (wOr (wNot (wTest (wCB (b2 dIsi) (wCons (wVar 0) (wCons (wC (.p (.ty "str"))) wNil))))) (wNot (wTest (wChain dLe dLe (wC (.p (.int 1))) (wCB (b1 dLen) (wCons (wVar 0) wNil)) (wC (.p (.int 8))))))) (wRet (wC (.p (.bl false)))) wNext) w__law_is_word_3
abbrev w__law_is_word : WS :=
  w__law_is_word_4

theorem pur__law_is_int : ∀ ds S Q E, sp__law_is_int ds S Q E → w__law_is_int (endsF S.length Q E) (startR N__law_is_int ds) S := pur_is_level
theorem pur__law_is_word : ∀ ds S Q E, sp__law_is_word ds S Q E → w__law_is_word (endsF S.length Q E) (startR N__law_is_word ds) S := by
  rintro ds S Q E ⟨v, rfl, ht, h⟩
  have e : startR N__law_is_word [.p v] = [some (.p v), none] := rfl
  rw [e]
  repeat (first | with_reducible refine st_var (by with_unfolding_all exact rfl) ?_ | with_reducible refine st_seq ?_ | with_reducible refine st_set ?_ | with_reducible refine st_bin ?_ | with_reducible refine st_c ?_ | with_reducible refine st_cb ?_ | with_reducible refine st_cons ?_ | with_reducible refine st_nil ?_ | with_reducible refine st_b1 ?_ | with_reducible refine st_b2 ?_ | with_reducible refine st_test ?_ | with_reducible refine st_ifS ?_ | with_reducible refine st_ret ?_ | with_reducible refine st_retN ?_ | with_reducible refine st_drop ?_ | with_reducible refine st_next ?_ | with_reducible refine st_un ?_ | with_reducible refine st_call ?_ | with_reducible refine st_callK ?_ | with_reducible refine st_and ?_ | with_reducible refine st_or ?_ | with_reducible refine st_not ?_ | with_reducible refine st_yes ?_ | with_reducible refine st_andV ?_ | with_reducible refine st_orV ?_ | with_reducible refine st_notV ?_ | with_reducible refine st_if ?_ | with_reducible refine st_chain ?_ | with_reducible refine st_disp ?_ | with_reducible refine st_newL ?_ | with_reducible refine st_sl ?_ | with_reducible refine st_noP ?_ | with_reducible refine st_part ?_ | with_reducible refine st_dput ?_ | with_reducible refine st_join ?_ | with_reducible refine st_lc ?_ | with_reducible refine st_rng ?_ | with_reducible refine st_it ?_ | with_reducible refine st_for ?_ | with_reducible refine st_isi2 ?_ | with_reducible refine st_dnew ?_ | with_reducible refine st_dict ?_ | with_reducible refine st_pcons ?_ | with_reducible refine st_pnil ?_ | with_reducible refine st_addI ?_ | with_reducible refine st_i0 ?_ | with_reducible refine st_toInt ?_ | with_reducible refine st_i1 ?_ | with_reducible refine st_neg ?_ | with_reducible refine st_lenL ?_ | with_reducible refine st_lenT ?_ | with_reducible refine st_lenC ?_ | with_reducible refine st_lstL ?_ | with_reducible refine st_lstT ?_ | with_reducible refine st_tupL ?_ | with_reducible refine st_tupT ?_ | with_reducible refine st_reprB ?_ | with_reducible refine st_inS ?_ | with_reducible refine st_getL ?_ | with_reducible refine st_getA ?_ | with_reducible refine st_getC ?_ | with_reducible refine st_putL ?_ | with_reducible refine st_putA ?_ | refine st_dok (by exact Nat.le_of_ble_eq_true rfl) ?_ | refine st_kvs (by decide +kernel) (by decide) ?_)
  cases v with
  | ty _ => exact ht.elim
  | scr _ => exact ht.elim
  | obj _ _ _ => exact ht.elim
  | str z =>
    have ht1 : z.length ≤ 1000 := ht.1
    have hs : 1000 ≤ sizeLine := by decide
    refine st_isiB (b := true) (by decide) rfl (by decide) ?_
    refine iteF ?_
    repeat (first | with_reducible refine st_var (by with_unfolding_all exact rfl) ?_ | with_reducible refine st_seq ?_ | with_reducible refine st_set ?_ | with_reducible refine st_bin ?_ | with_reducible refine st_c ?_ | with_reducible refine st_cb ?_ | with_reducible refine st_cons ?_ | with_reducible refine st_nil ?_ | with_reducible refine st_b1 ?_ | with_reducible refine st_b2 ?_ | with_reducible refine st_test ?_ | with_reducible refine st_ifS ?_ | with_reducible refine st_ret ?_ | with_reducible refine st_retN ?_ | with_reducible refine st_drop ?_ | with_reducible refine st_next ?_ | with_reducible refine st_un ?_ | with_reducible refine st_call ?_ | with_reducible refine st_callK ?_ | with_reducible refine st_and ?_ | with_reducible refine st_or ?_ | with_reducible refine st_not ?_ | with_reducible refine st_yes ?_ | with_reducible refine st_andV ?_ | with_reducible refine st_orV ?_ | with_reducible refine st_notV ?_ | with_reducible refine st_if ?_ | with_reducible refine st_chain ?_ | with_reducible refine st_disp ?_ | with_reducible refine st_newL ?_ | with_reducible refine st_sl ?_ | with_reducible refine st_noP ?_ | with_reducible refine st_part ?_ | with_reducible refine st_dput ?_ | with_reducible refine st_join ?_ | with_reducible refine st_lc ?_ | with_reducible refine st_rng ?_ | with_reducible refine st_it ?_ | with_reducible refine st_for ?_ | with_reducible refine st_isi2 ?_ | with_reducible refine st_dnew ?_ | with_reducible refine st_dict ?_ | with_reducible refine st_pcons ?_ | with_reducible refine st_pnil ?_ | with_reducible refine st_addI ?_ | with_reducible refine st_i0 ?_ | with_reducible refine st_toInt ?_ | with_reducible refine st_i1 ?_ | with_reducible refine st_neg ?_ | with_reducible refine st_lenL ?_ | with_reducible refine st_lenT ?_ | with_reducible refine st_lenC ?_ | with_reducible refine st_lstL ?_ | with_reducible refine st_lstT ?_ | with_reducible refine st_tupL ?_ | with_reducible refine st_tupT ?_ | with_reducible refine st_reprB ?_ | with_reducible refine st_inS ?_ | with_reducible refine st_getL ?_ | with_reducible refine st_getA ?_ | with_reducible refine st_getC ?_ | with_reducible refine st_putL ?_ | with_reducible refine st_putA ?_ | refine st_dok (by exact Nat.le_of_ble_eq_true rfl) ?_ | refine st_kvs (by decide +kernel) (by decide) ?_)
    refine st_lenS (by omega) ?_
    repeat (first | with_reducible refine st_var (by with_unfolding_all exact rfl) ?_ | with_reducible refine st_seq ?_ | with_reducible refine st_set ?_ | with_reducible refine st_bin ?_ | with_reducible refine st_c ?_ | with_reducible refine st_cb ?_ | with_reducible refine st_cons ?_ | with_reducible refine st_nil ?_ | with_reducible refine st_b1 ?_ | with_reducible refine st_b2 ?_ | with_reducible refine st_test ?_ | with_reducible refine st_ifS ?_ | with_reducible refine st_ret ?_ | with_reducible refine st_retN ?_ | with_reducible refine st_drop ?_ | with_reducible refine st_next ?_ | with_reducible refine st_un ?_ | with_reducible refine st_call ?_ | with_reducible refine st_callK ?_ | with_reducible refine st_and ?_ | with_reducible refine st_or ?_ | with_reducible refine st_not ?_ | with_reducible refine st_yes ?_ | with_reducible refine st_andV ?_ | with_reducible refine st_orV ?_ | with_reducible refine st_notV ?_ | with_reducible refine st_if ?_ | with_reducible refine st_chain ?_ | with_reducible refine st_disp ?_ | with_reducible refine st_newL ?_ | with_reducible refine st_sl ?_ | with_reducible refine st_noP ?_ | with_reducible refine st_part ?_ | with_reducible refine st_dput ?_ | with_reducible refine st_join ?_ | with_reducible refine st_lc ?_ | with_reducible refine st_rng ?_ | with_reducible refine st_it ?_ | with_reducible refine st_for ?_ | with_reducible refine st_isi2 ?_ | with_reducible refine st_dnew ?_ | with_reducible refine st_dict ?_ | with_reducible refine st_pcons ?_ | with_reducible refine st_pnil ?_ | with_reducible refine st_addI ?_ | with_reducible refine st_i0 ?_ | with_reducible refine st_toInt ?_ | with_reducible refine st_i1 ?_ | with_reducible refine st_neg ?_ | with_reducible refine st_lenL ?_ | with_reducible refine st_lenT ?_ | with_reducible refine st_lenC ?_ | with_reducible refine st_lstL ?_ | with_reducible refine st_lstT ?_ | with_reducible refine st_tupL ?_ | with_reducible refine st_tupT ?_ | with_reducible refine st_reprB ?_ | with_reducible refine st_inS ?_ | with_reducible refine st_getL ?_ | with_reducible refine st_getA ?_ | with_reducible refine st_getC ?_ | with_reducible refine st_putL ?_ | with_reducible refine st_putA ?_ | refine st_dok (by exact Nat.le_of_ble_eq_true rfl) ?_ | refine st_kvs (by decide +kernel) (by decide) ?_)
    cases c1 : decide (1 ≤ (z.length : Int)) with
    | false =>
      refine iteT ?_
      refine st_ret (st_c ?_)
      rw [isName_str (b := false) (by rw [c1]; rfl)] at h
      exact st_rtP rfl h
    | true =>
      repeat (first | with_reducible refine st_var (by with_unfolding_all exact rfl) ?_ | with_reducible refine st_seq ?_ | with_reducible refine st_set ?_ | with_reducible refine st_bin ?_ | with_reducible refine st_c ?_ | with_reducible refine st_cb ?_ | with_reducible refine st_cons ?_ | with_reducible refine st_nil ?_ | with_reducible refine st_b1 ?_ | with_reducible refine st_b2 ?_ | with_reducible refine st_test ?_ | with_reducible refine st_ifS ?_ | with_reducible refine st_ret ?_ | with_reducible refine st_retN ?_ | with_reducible refine st_drop ?_ | with_reducible refine st_next ?_ | with_reducible refine st_un ?_ | with_reducible refine st_call ?_ | with_reducible refine st_callK ?_ | with_reducible refine st_and ?_ | with_reducible refine st_or ?_ | with_reducible refine st_not ?_ | with_reducible refine st_yes ?_ | with_reducible refine st_andV ?_ | with_reducible refine st_orV ?_ | with_reducible refine st_notV ?_ | with_reducible refine st_if ?_ | with_reducible refine st_chain ?_ | with_reducible refine st_disp ?_ | with_reducible refine st_newL ?_ | with_reducible refine st_sl ?_ | with_reducible refine st_noP ?_ | with_reducible refine st_part ?_ | with_reducible refine st_dput ?_ | with_reducible refine st_join ?_ | with_reducible refine st_lc ?_ | with_reducible refine st_rng ?_ | with_reducible refine st_it ?_ | with_reducible refine st_for ?_ | with_reducible refine st_isi2 ?_ | with_reducible refine st_dnew ?_ | with_reducible refine st_dict ?_ | with_reducible refine st_pcons ?_ | with_reducible refine st_pnil ?_ | with_reducible refine st_addI ?_ | with_reducible refine st_i0 ?_ | with_reducible refine st_toInt ?_ | with_reducible refine st_i1 ?_ | with_reducible refine st_neg ?_ | with_reducible refine st_lenL ?_ | with_reducible refine st_lenT ?_ | with_reducible refine st_lenC ?_ | with_reducible refine st_lstL ?_ | with_reducible refine st_lstT ?_ | with_reducible refine st_tupL ?_ | with_reducible refine st_tupT ?_ | with_reducible refine st_reprB ?_ | with_reducible refine st_inS ?_ | with_reducible refine st_getL ?_ | with_reducible refine st_getA ?_ | with_reducible refine st_getC ?_ | with_reducible refine st_putL ?_ | with_reducible refine st_putA ?_ | refine st_dok (by exact Nat.le_of_ble_eq_true rfl) ?_ | refine st_kvs (by decide +kernel) (by decide) ?_)
      cases c2 : decide ((z.length : Int) ≤ 8) with
      | false =>
        refine iteT ?_
        refine st_ret (st_c ?_)
        rw [isName_str (b := false) (by rw [c1, c2]; rfl)] at h
        exact st_rtP rfl h
      | true =>
        refine iteF ?_
        repeat (first | with_reducible refine st_var (by with_unfolding_all exact rfl) ?_ | with_reducible refine st_seq ?_ | with_reducible refine st_set ?_ | with_reducible refine st_bin ?_ | with_reducible refine st_c ?_ | with_reducible refine st_cb ?_ | with_reducible refine st_cons ?_ | with_reducible refine st_nil ?_ | with_reducible refine st_b1 ?_ | with_reducible refine st_b2 ?_ | with_reducible refine st_test ?_ | with_reducible refine st_ifS ?_ | with_reducible refine st_ret ?_ | with_reducible refine st_retN ?_ | with_reducible refine st_drop ?_ | with_reducible refine st_next ?_ | with_reducible refine st_un ?_ | with_reducible refine st_call ?_ | with_reducible refine st_callK ?_ | with_reducible refine st_and ?_ | with_reducible refine st_or ?_ | with_reducible refine st_not ?_ | with_reducible refine st_yes ?_ | with_reducible refine st_andV ?_ | with_reducible refine st_orV ?_ | with_reducible refine st_notV ?_ | with_reducible refine st_if ?_ | with_reducible refine st_chain ?_ | with_reducible refine st_disp ?_ | with_reducible refine st_newL ?_ | with_reducible refine st_sl ?_ | with_reducible refine st_noP ?_ | with_reducible refine st_part ?_ | with_reducible refine st_dput ?_ | with_reducible refine st_join ?_ | with_reducible refine st_lc ?_ | with_reducible refine st_rng ?_ | with_reducible refine st_it ?_ | with_reducible refine st_for ?_ | with_reducible refine st_isi2 ?_ | with_reducible refine st_dnew ?_ | with_reducible refine st_dict ?_ | with_reducible refine st_pcons ?_ | with_reducible refine st_pnil ?_ | with_reducible refine st_addI ?_ | with_reducible refine st_i0 ?_ | with_reducible refine st_toInt ?_ | with_reducible refine st_i1 ?_ | with_reducible refine st_neg ?_ | with_reducible refine st_lenL ?_ | with_reducible refine st_lenT ?_ | with_reducible refine st_lenC ?_ | with_reducible refine st_lstL ?_ | with_reducible refine st_lstT ?_ | with_reducible refine st_tupL ?_ | with_reducible refine st_tupT ?_ | with_reducible refine st_reprB ?_ | with_reducible refine st_inS ?_ | with_reducible refine st_getL ?_ | with_reducible refine st_getA ?_ | with_reducible refine st_getC ?_ | with_reducible refine st_putL ?_ | with_reducible refine st_putA ?_ | refine st_dok (by exact Nat.le_of_ble_eq_true rfl) ?_ | refine st_kvs (by decide +kernel) (by decide) ?_)
        refine lcRun_pure (t := fun d => !decide (sgn d ∈ abc.cps.toList)) (g := fun d => .str ⟨#[sgn d]⟩) ?_ ?_ ?_
        · intro d hd
          obtain ⟨c, mc, rfl⟩ := List.mem_map.mp hd
          refine ⟨_, rfl, fun QT E q => ?_, fun _ Q E q => ?_⟩
          · repeat (first | with_reducible refine st_var (by with_unfolding_all exact rfl) ?_ | with_reducible refine st_seq ?_ | with_reducible refine st_set ?_ | with_reducible refine st_bin ?_ | with_reducible refine st_c ?_ | with_reducible refine st_cb ?_ | with_reducible refine st_cons ?_ | with_reducible refine st_nil ?_ | with_reducible refine st_b1 ?_ | with_reducible refine st_b2 ?_ | with_reducible refine st_test ?_ | with_reducible refine st_ifS ?_ | with_reducible refine st_ret ?_ | with_reducible refine st_retN ?_ | with_reducible refine st_drop ?_ | with_reducible refine st_next ?_ | with_reducible refine st_un ?_ | with_reducible refine st_call ?_ | with_reducible refine st_callK ?_ | with_reducible refine st_and ?_ | with_reducible refine st_or ?_ | with_reducible refine st_not ?_ | with_reducible refine st_yes ?_ | with_reducible refine st_andV ?_ | with_reducible refine st_orV ?_ | with_reducible refine st_notV ?_ | with_reducible refine st_if ?_ | with_reducible refine st_chain ?_ | with_reducible refine st_disp ?_ | with_reducible refine st_newL ?_ | with_reducible refine st_sl ?_ | with_reducible refine st_noP ?_ | with_reducible refine st_part ?_ | with_reducible refine st_dput ?_ | with_reducible refine st_join ?_ | with_reducible refine st_lc ?_ | with_reducible refine st_rng ?_ | with_reducible refine st_it ?_ | with_reducible refine st_for ?_ | with_reducible refine st_isi2 ?_ | with_reducible refine st_dnew ?_ | with_reducible refine st_dict ?_ | with_reducible refine st_pcons ?_ | with_reducible refine st_pnil ?_ | with_reducible refine st_addI ?_ | with_reducible refine st_i0 ?_ | with_reducible refine st_toInt ?_ | with_reducible refine st_i1 ?_ | with_reducible refine st_neg ?_ | with_reducible refine st_lenL ?_ | with_reducible refine st_lenT ?_ | with_reducible refine st_lenC ?_ | with_reducible refine st_lstL ?_ | with_reducible refine st_lstT ?_ | with_reducible refine st_tupL ?_ | with_reducible refine st_tupT ?_ | with_reducible refine st_reprB ?_ | with_reducible refine st_inS ?_ | with_reducible refine st_getL ?_ | with_reducible refine st_getA ?_ | with_reducible refine st_getC ?_ | with_reducible refine st_putL ?_ | with_reducible refine st_putA ?_ | refine st_dok (by exact Nat.le_of_ble_eq_true rfl) ?_ | refine st_kvs (by decide +kernel) (by decide) ?_)
            exact q
          · repeat (first | with_reducible refine st_var (by with_unfolding_all exact rfl) ?_ | with_reducible refine st_seq ?_ | with_reducible refine st_set ?_ | with_reducible refine st_bin ?_ | with_reducible refine st_c ?_ | with_reducible refine st_cb ?_ | with_reducible refine st_cons ?_ | with_reducible refine st_nil ?_ | with_reducible refine st_b1 ?_ | with_reducible refine st_b2 ?_ | with_reducible refine st_test ?_ | with_reducible refine st_ifS ?_ | with_reducible refine st_ret ?_ | with_reducible refine st_retN ?_ | with_reducible refine st_drop ?_ | with_reducible refine st_next ?_ | with_reducible refine st_un ?_ | with_reducible refine st_call ?_ | with_reducible refine st_callK ?_ | with_reducible refine st_and ?_ | with_reducible refine st_or ?_ | with_reducible refine st_not ?_ | with_reducible refine st_yes ?_ | with_reducible refine st_andV ?_ | with_reducible refine st_orV ?_ | with_reducible refine st_notV ?_ | with_reducible refine st_if ?_ | with_reducible refine st_chain ?_ | with_reducible refine st_disp ?_ | with_reducible refine st_newL ?_ | with_reducible refine st_sl ?_ | with_reducible refine st_noP ?_ | with_reducible refine st_part ?_ | with_reducible refine st_dput ?_ | with_reducible refine st_join ?_ | with_reducible refine st_lc ?_ | with_reducible refine st_rng ?_ | with_reducible refine st_it ?_ | with_reducible refine st_for ?_ | with_reducible refine st_isi2 ?_ | with_reducible refine st_dnew ?_ | with_reducible refine st_dict ?_ | with_reducible refine st_pcons ?_ | with_reducible refine st_pnil ?_ | with_reducible refine st_addI ?_ | with_reducible refine st_i0 ?_ | with_reducible refine st_toInt ?_ | with_reducible refine st_i1 ?_ | with_reducible refine st_neg ?_ | with_reducible refine st_lenL ?_ | with_reducible refine st_lenT ?_ | with_reducible refine st_lenC ?_ | with_reducible refine st_lstL ?_ | with_reducible refine st_lstT ?_ | with_reducible refine st_tupL ?_ | with_reducible refine st_tupT ?_ | with_reducible refine st_reprB ?_ | with_reducible refine st_inS ?_ | with_reducible refine st_getL ?_ | with_reducible refine st_getA ?_ | with_reducible refine st_getC ?_ | with_reducible refine st_putL ?_ | with_reducible refine st_putA ?_ | refine st_dok (by exact Nat.le_of_ble_eq_true rfl) ?_ | refine st_kvs (by decide +kernel) (by decide) ?_)
            exact q
        · show 0 + (z.cps.toList.map _).length ≤ sizeLine
          rw [List.length_map, Array.length_toList]
          have : z.cps.size = z.length := rfl
          omega
        · repeat (first | with_reducible refine st_var (by with_unfolding_all exact rfl) ?_ | with_reducible refine st_seq ?_ | with_reducible refine st_set ?_ | with_reducible refine st_bin ?_ | with_reducible refine st_c ?_ | with_reducible refine st_cb ?_ | with_reducible refine st_cons ?_ | with_reducible refine st_nil ?_ | with_reducible refine st_b1 ?_ | with_reducible refine st_b2 ?_ | with_reducible refine st_test ?_ | with_reducible refine st_ifS ?_ | with_reducible refine st_ret ?_ | with_reducible refine st_retN ?_ | with_reducible refine st_drop ?_ | with_reducible refine st_next ?_ | with_reducible refine st_un ?_ | with_reducible refine st_call ?_ | with_reducible refine st_callK ?_ | with_reducible refine st_and ?_ | with_reducible refine st_or ?_ | with_reducible refine st_not ?_ | with_reducible refine st_yes ?_ | with_reducible refine st_andV ?_ | with_reducible refine st_orV ?_ | with_reducible refine st_notV ?_ | with_reducible refine st_if ?_ | with_reducible refine st_chain ?_ | with_reducible refine st_disp ?_ | with_reducible refine st_newL ?_ | with_reducible refine st_sl ?_ | with_reducible refine st_noP ?_ | with_reducible refine st_part ?_ | with_reducible refine st_dput ?_ | with_reducible refine st_join ?_ | with_reducible refine st_lc ?_ | with_reducible refine st_rng ?_ | with_reducible refine st_it ?_ | with_reducible refine st_for ?_ | with_reducible refine st_isi2 ?_ | with_reducible refine st_dnew ?_ | with_reducible refine st_dict ?_ | with_reducible refine st_pcons ?_ | with_reducible refine st_pnil ?_ | with_reducible refine st_addI ?_ | with_reducible refine st_i0 ?_ | with_reducible refine st_toInt ?_ | with_reducible refine st_i1 ?_ | with_reducible refine st_neg ?_ | with_reducible refine st_lenL ?_ | with_reducible refine st_lenT ?_ | with_reducible refine st_lenC ?_ | with_reducible refine st_lstL ?_ | with_reducible refine st_lstT ?_ | with_reducible refine st_tupL ?_ | with_reducible refine st_tupT ?_ | with_reducible refine st_reprB ?_ | with_reducible refine st_inS ?_ | with_reducible refine st_getL ?_ | with_reducible refine st_getA ?_ | with_reducible refine st_getC ?_ | with_reducible refine st_putL ?_ | with_reducible refine st_putA ?_ | refine st_dok (by exact Nat.le_of_ble_eq_true rfl) ?_ | refine st_kvs (by decide +kernel) (by decide) ?_)
          have ek : (List.filter (fun d => !decide (sgn d ∈ abc.cps.toList)) (z.cps.toList.map fun c => RB.D.p (.str ⟨#[c]⟩))).map (fun d => RB.P.str ⟨#[sgn d]⟩) = (z.cps.toList.filter fun c => !decide (c ∈ abc.cps.toList)).map fun c => RB.P.str ⟨#[c]⟩ := by
            rw [List.filter_map, List.map_map]
            rfl
          rw [List.nil_append, ek]
          have q1 : pdD S (.p (.lst ((z.cps.toList.filter fun c => !decide (c ∈ abc.cps.toList)).map fun c => RB.P.str ⟨#[c]⟩))) = some (.list ((z.cps.toList.filter fun c => !decide (c ∈ abc.cps.toList)).map fun c => PyData.str ⟨#[c]⟩)) := by
            show (pds _).map PyData.list = _
            rw [pds_strs]
            rfl
          unfold dEqv
          rw [q1]
          refine ⟨shaped_strs _ _ ?_, rfl, ?_⟩
          · intro c mc
            have := ht.2 c (List.mem_filter.mp mc).1
            show (#[c] : Array Nat).all _ = true
            simp
            omega
          · show (endsF (List.length S) Q E).rt (.p (.bl (PyData.eqv (.list _) (.list [])))) S
            rw [eqv_list_nil]
            refine st_rtP rfl ?_
            rw [isName_str rfl, c1, c2, Bool.and_true, Bool.true_and] at h
            have ee : (z.cps.toList.all fun c => decide (c ∈ abc.cps.toList)) = ((z.cps.toList.filter fun c => !decide (c ∈ abc.cps.toList)).map fun c => PyData.str ⟨#[c]⟩).isEmpty := all_filter (fun c => decide (c ∈ abc.cps.toList)) _ _
            rw [← ee]
            exact h
  | _ =>
    refine st_isiB (b := false) (by decide) rfl (by decide) ?_
    refine iteT ?_
    refine iteT ?_
    refine st_ret (st_c ?_)
    exact st_rtP rfl h
def sp__law_word : DSp := fun ds S Q _ => ∃ (f : Feed) (R : Store), ds = [.cell 0] ∧ S = feedC f :: R ∧ FOk f ∧ f.at_ + 14 ≤ LIM ∧ ∀ z f', z.length ≤ 21 → asc z → Fed 14 f f' → Q (.p (.str z)) (feedC f' :: R)
theorem mon__law_word : DMon sp__law_word := fun ds S Q Q' E E' hq he ⟨f, R, h1, h2, h3, h4, h⟩ => ⟨f, R, h1, h2, h3, h4, fun z f' a b c => hq _ _ (h z f' a b c)⟩
theorem len__law_word : ∀ ds S Q E, sp__law_word ds S Q E → ds.length = 1 := fun ds S Q E ⟨_, _, h1, _⟩ => by rw [h1]; rfl
abbrev signs1 : Str := Str.ofString " !\"#$&'()*+,-./0123456789:;<=>?@ABCDEFGHIJKLMNOPQRSTUVWXYZ[]^_`abcdefghijklmnopqrstuvwxyz{|}~\\\n"
theorem asc_abc : asc abc := by
  unfold asc
  decide +kernel
theorem asc_signs1 : asc signs1 := by
  unfold asc
  decide +kernel
theorem opts_str {z : Str} {p : RB.P} (m : p ∈ optsOf (.str z)) : ∃ c ∈ z.cps.toList, p = .str ⟨#[c]⟩ := by
  obtain ⟨c, mc, e⟩ := List.mem_map.mp m
  exact ⟨c, mc, e.symm⟩
abbrev N__law_word : List Str := [(Str.ofString "_law_feed_here"), (Str.ofString "_law_signs"), (Str.ofString "_law_found"), (Str.ofString "_law_k"), (Str.ofString "_law_odd")]
abbrev ps__law_word : List Str := [(Str.ofString "_law_feed_here")]
abbrev w__law_word_1 : WE := wCall sp__law_pick [] (wCons (wVar 0) (wCons (wC (.p (.str (Str.ofString "abcdefghijklmnopqrstuvwxyz")))) wNil))
abbrev w__law_word_2 : WS := wRet (wCall sp__law_pick [] (wCons (wVar 0) (wCons (wDisp .lst (wCons (wVar 2) (wCons (wVar 2) (wCons (wBin dAdd (wBin dAdd (wSl (wVar 2) wNoP (wPart (wVar 3))) (wVar 4)) (wSl (wVar 2) (wPart (wVar 3)) wNoP)) (wCons (wBin dAdd (wBin dAdd (wSl (wVar 2) wNoP (wPart (wVar 3))) (wVar 4)) (wSl (wVar 2) (wPart (wBin dAdd (wVar 3) (wC (.p (.int 1))))) wNoP)) wNil))))) wNil)))
abbrev w__law_word_3 : WS := wSeq (wSet 4 (wCall sp__law_pick [] (wCons (wVar 0) (wCons (wVar 1) wNil)))) w__law_word_2
abbrev w__law_word_4 : WS := wSeq (wSet 3 (wCall sp__law_draw [] (wCons (wVar 0) (wCons (wBin dAdd (wCB (b1 dLen) (wCons (wVar 2) wNil)) (wC (.p (.int 1)))) wNil)))) w__law_word_3
abbrev w__law_word_5 : WS := wSeq (wSet 2 (wJoin (wC (.p (.str (Str.ofString "")))) (wLC (wRng (wCons (wCall sp__law_draw [] (wCons (wVar 0) (wCons (wC (.p (.int 11))) wNil))) wNil)) (.nm 3) wYes w__law_word_1 [3]))) w__law_word_4
abbrev w__law_word_6 : WS := wSeq (wSet 1 (wC (.p (.str (Str.ofString " !\"#$&'()*+,-./0123456789:;<=>?@ABCDEFGHIJKLMNOPQRSTUVWXYZ[]^_`abcdefghijklmnopqrstuvwxyz{|}~\\\n"))))) w__law_word_5
abbrev w__law_word : WS :=
  w__law_word_6

theorem pur__law_word : ∀ ds S Q E, sp__law_word ds S Q E → w__law_word (endsF S.length Q E) (startR N__law_word ds) S := by
  rintro ds S Q E ⟨f, R, rfl, rfl, ok, hat, h⟩
  have e : startR N__law_word [.cell 0] = [some (.cell 0), none, none, none, none] := rfl
  rw [e]
  have hs : sizeLine = 16777216 := rfl
  repeat (first | with_reducible refine st_var (by with_unfolding_all exact rfl) ?_ | with_reducible refine st_seq ?_ | with_reducible refine st_set ?_ | with_reducible refine st_bin ?_ | with_reducible refine st_c ?_ | with_reducible refine st_cb ?_ | with_reducible refine st_cons ?_ | with_reducible refine st_nil ?_ | with_reducible refine st_b1 ?_ | with_reducible refine st_b2 ?_ | with_reducible refine st_test ?_ | with_reducible refine st_ifS ?_ | with_reducible refine st_ret ?_ | with_reducible refine st_retN ?_ | with_reducible refine st_drop ?_ | with_reducible refine st_next ?_ | with_reducible refine st_un ?_ | with_reducible refine st_call ?_ | with_reducible refine st_callK ?_ | with_reducible refine st_and ?_ | with_reducible refine st_or ?_ | with_reducible refine st_not ?_ | with_reducible refine st_yes ?_ | with_reducible refine st_andV ?_ | with_reducible refine st_orV ?_ | with_reducible refine st_notV ?_ | with_reducible refine st_if ?_ | with_reducible refine st_chain ?_ | with_reducible refine st_disp ?_ | with_reducible refine st_newL ?_ | with_reducible refine st_sl ?_ | with_reducible refine st_noP ?_ | with_reducible refine st_part ?_ | with_reducible refine st_dput ?_ | with_reducible refine st_join ?_ | with_reducible refine st_lc ?_ | with_reducible refine st_rng ?_ | with_reducible refine st_it ?_ | with_reducible refine st_for ?_ | with_reducible refine st_isi2 ?_ | with_reducible refine st_dnew ?_ | with_reducible refine st_dict ?_ | with_reducible refine st_pcons ?_ | with_reducible refine st_pnil ?_ | with_reducible refine st_addI ?_ | with_reducible refine st_i0 ?_ | with_reducible refine st_toInt ?_ | with_reducible refine st_i1 ?_ | with_reducible refine st_neg ?_ | with_reducible refine st_lenL ?_ | with_reducible refine st_lenT ?_ | with_reducible refine st_lenC ?_ | with_reducible refine st_lstL ?_ | with_reducible refine st_lstT ?_ | with_reducible refine st_tupL ?_ | with_reducible refine st_tupT ?_ | with_reducible refine st_reprB ?_ | with_reducible refine st_inS ?_ | with_reducible refine st_getL ?_ | with_reducible refine st_getA ?_ | with_reducible refine st_getC ?_ | with_reducible refine st_putL ?_ | with_reducible refine st_putA ?_ | refine st_dok (by exact Nat.le_of_ble_eq_true rfl) ?_ | refine st_kvs (by decide +kernel) (by decide) ?_)
  refine ⟨11, f, R, rfl, rfl, ok, by omega, by decide, by decide, fun d f1 h0 h1 fd => ?_⟩
  refine ⟨by omega, by omega, ?_⟩
  have ln : (rngD 0 d.toNat).length = d.toNat := by simp [rngD]
  refine lcRun_inv (fun j acc S => ∃ g cs, S = feedC g :: R ∧ Fed j f1 g ∧ acc = cs.map (fun c => RB.P.str ⟨#[c]⟩) ∧ cs.length = j ∧ ∀ c ∈ cs, c < 128) ?_ ⟨f1, [], rfl, ⟨fd.ok, by omega⟩, rfl, rfl, fun _ m => by cases m⟩ (by omega) ?_
  · rintro j x acc S K hx ⟨g, cs, rfl, fg, rfl, hc, ha⟩
    have hj : j < d.toNat := by
      have := (List.getElem?_eq_some_iff.mp hx).1
      omega
    refine ⟨_, rfl, fun hk => ?_⟩
    repeat (first | with_reducible refine st_var (by with_unfolding_all exact rfl) ?_ | with_reducible refine st_seq ?_ | with_reducible refine st_set ?_ | with_reducible refine st_bin ?_ | with_reducible refine st_c ?_ | with_reducible refine st_cb ?_ | with_reducible refine st_cons ?_ | with_reducible refine st_nil ?_ | with_reducible refine st_b1 ?_ | with_reducible refine st_b2 ?_ | with_reducible refine st_test ?_ | with_reducible refine st_ifS ?_ | with_reducible refine st_ret ?_ | with_reducible refine st_retN ?_ | with_reducible refine st_drop ?_ | with_reducible refine st_next ?_ | with_reducible refine st_un ?_ | with_reducible refine st_call ?_ | with_reducible refine st_callK ?_ | with_reducible refine st_and ?_ | with_reducible refine st_or ?_ | with_reducible refine st_not ?_ | with_reducible refine st_yes ?_ | with_reducible refine st_andV ?_ | with_reducible refine st_orV ?_ | with_reducible refine st_notV ?_ | with_reducible refine st_if ?_ | with_reducible refine st_chain ?_ | with_reducible refine st_disp ?_ | with_reducible refine st_newL ?_ | with_reducible refine st_sl ?_ | with_reducible refine st_noP ?_ | with_reducible refine st_part ?_ | with_reducible refine st_dput ?_ | with_reducible refine st_join ?_ | with_reducible refine st_lc ?_ | with_reducible refine st_rng ?_ | with_reducible refine st_it ?_ | with_reducible refine st_for ?_ | with_reducible refine st_isi2 ?_ | with_reducible refine st_dnew ?_ | with_reducible refine st_dict ?_ | with_reducible refine st_pcons ?_ | with_reducible refine st_pnil ?_ | with_reducible refine st_addI ?_ | with_reducible refine st_i0 ?_ | with_reducible refine st_toInt ?_ | with_reducible refine st_i1 ?_ | with_reducible refine st_neg ?_ | with_reducible refine st_lenL ?_ | with_reducible refine st_lenT ?_ | with_reducible refine st_lenC ?_ | with_reducible refine st_lstL ?_ | with_reducible refine st_lstT ?_ | with_reducible refine st_tupL ?_ | with_reducible refine st_tupT ?_ | with_reducible refine st_reprB ?_ | with_reducible refine st_inS ?_ | with_reducible refine st_getL ?_ | with_reducible refine st_getA ?_ | with_reducible refine st_getC ?_ | with_reducible refine st_putL ?_ | with_reducible refine st_putA ?_ | refine st_dok (by exact Nat.le_of_ble_eq_true rfl) ?_ | refine st_kvs (by decide +kernel) (by decide) ?_)
    refine ⟨.str abc, g, R, rfl, rfl, fg.ok, ?_, by decide +kernel, by decide +kernel, fun p g' mp fp => ?_⟩
    · have := fd.at_
      have := fg.at_
      omega
    · obtain ⟨c, mc, rfl⟩ := opts_str mp
      refine hk _ _ ⟨g', cs ++ [c], rfl, fg.trans fp (by omega), by simp, by simp [hc], fun x m => ?_⟩
      rcases List.mem_append.mp m with m | m
      · exact ha x m
      · have e : x = c := by simpa using m
        rw [e]
        exact asc_abc c mc
  · rintro acc S ⟨g, cs, rfl, fg, rfl, hc, ha⟩
    have f2 : Fed 11 f g := fd.trans fg (by omega)
    have lz : ((cs.map fun c => (⟨#[c]⟩ : Str)).map (·.length)).sum = cs.length := sum_ones fun c _ => rfl
    have z0 : (Str.ofString "").length = 0 := by decide
    obtain ⟨z, ez⟩ : ∃ z, z = Txt.join (Str.ofString "") (cs.map fun c => (⟨#[c]⟩ : Str)) := ⟨_, rfl⟩
    have zl : z.length ≤ 10 := by
      have := len_join_le (a := Str.ofString "") (ys := cs.map fun c => (⟨#[c]⟩ : Str))
      rw [← ez, lz, z0] at this
      omega
    have za : asc z := by
      rw [ez]
      refine asc_join (fun c m => by cases m) fun y m => ?_
      obtain ⟨c, mc, rfl⟩ := List.mem_map.mp m
      exact asc_one (ha c mc)
    repeat (first | with_reducible refine st_var (by with_unfolding_all exact rfl) ?_ | with_reducible refine st_seq ?_ | with_reducible refine st_set ?_ | with_reducible refine st_bin ?_ | with_reducible refine st_c ?_ | with_reducible refine st_cb ?_ | with_reducible refine st_cons ?_ | with_reducible refine st_nil ?_ | with_reducible refine st_b1 ?_ | with_reducible refine st_b2 ?_ | with_reducible refine st_test ?_ | with_reducible refine st_ifS ?_ | with_reducible refine st_ret ?_ | with_reducible refine st_retN ?_ | with_reducible refine st_drop ?_ | with_reducible refine st_next ?_ | with_reducible refine st_un ?_ | with_reducible refine st_call ?_ | with_reducible refine st_callK ?_ | with_reducible refine st_and ?_ | with_reducible refine st_or ?_ | with_reducible refine st_not ?_ | with_reducible refine st_yes ?_ | with_reducible refine st_andV ?_ | with_reducible refine st_orV ?_ | with_reducible refine st_notV ?_ | with_reducible refine st_if ?_ | with_reducible refine st_chain ?_ | with_reducible refine st_disp ?_ | with_reducible refine st_newL ?_ | with_reducible refine st_sl ?_ | with_reducible refine st_noP ?_ | with_reducible refine st_part ?_ | with_reducible refine st_dput ?_ | with_reducible refine st_join ?_ | with_reducible refine st_lc ?_ | with_reducible refine st_rng ?_ | with_reducible refine st_it ?_ | with_reducible refine st_for ?_ | with_reducible refine st_isi2 ?_ | with_reducible refine st_dnew ?_ | with_reducible refine st_dict ?_ | with_reducible refine st_pcons ?_ | with_reducible refine st_pnil ?_ | with_reducible refine st_addI ?_ | with_reducible refine st_i0 ?_ | with_reducible refine st_toInt ?_ | with_reducible refine st_i1 ?_ | with_reducible refine st_neg ?_ | with_reducible refine st_lenL ?_ | with_reducible refine st_lenT ?_ | with_reducible refine st_lenC ?_ | with_reducible refine st_lstL ?_ | with_reducible refine st_lstT ?_ | with_reducible refine st_tupL ?_ | with_reducible refine st_tupT ?_ | with_reducible refine st_reprB ?_ | with_reducible refine st_inS ?_ | with_reducible refine st_getL ?_ | with_reducible refine st_getA ?_ | with_reducible refine st_getC ?_ | with_reducible refine st_putL ?_ | with_reducible refine st_putA ?_ | refine st_dok (by exact Nat.le_of_ble_eq_true rfl) ?_ | refine st_kvs (by decide +kernel) (by decide) ?_)
    unfold dJoin
    show (match strsP (cs.map fun c => RB.P.str ⟨#[c]⟩) with
      | some ys => _
      | none => False)
    rw [strsP_map]
    refine ⟨by rw [lz, z0]; omega, ?_⟩
    rw [← ez]
    repeat (first | with_reducible refine st_var (by with_unfolding_all exact rfl) ?_ | with_reducible refine st_seq ?_ | with_reducible refine st_set ?_ | with_reducible refine st_bin ?_ | with_reducible refine st_c ?_ | with_reducible refine st_cb ?_ | with_reducible refine st_cons ?_ | with_reducible refine st_nil ?_ | with_reducible refine st_b1 ?_ | with_reducible refine st_b2 ?_ | with_reducible refine st_test ?_ | with_reducible refine st_ifS ?_ | with_reducible refine st_ret ?_ | with_reducible refine st_retN ?_ | with_reducible refine st_drop ?_ | with_reducible refine st_next ?_ | with_reducible refine st_un ?_ | with_reducible refine st_call ?_ | with_reducible refine st_callK ?_ | with_reducible refine st_and ?_ | with_reducible refine st_or ?_ | with_reducible refine st_not ?_ | with_reducible refine st_yes ?_ | with_reducible refine st_andV ?_ | with_reducible refine st_orV ?_ | with_reducible refine st_notV ?_ | with_reducible refine st_if ?_ | with_reducible refine st_chain ?_ | with_reducible refine st_disp ?_ | with_reducible refine st_newL ?_ | with_reducible refine st_sl ?_ | with_reducible refine st_noP ?_ | with_reducible refine st_part ?_ | with_reducible refine st_dput ?_ | with_reducible refine st_join ?_ | with_reducible refine st_lc ?_ | with_reducible refine st_rng ?_ | with_reducible refine st_it ?_ | with_reducible refine st_for ?_ | with_reducible refine st_isi2 ?_ | with_reducible refine st_dnew ?_ | with_reducible refine st_dict ?_ | with_reducible refine st_pcons ?_ | with_reducible refine st_pnil ?_ | with_reducible refine st_addI ?_ | with_reducible refine st_i0 ?_ | with_reducible refine st_toInt ?_ | with_reducible refine st_i1 ?_ | with_reducible refine st_neg ?_ | with_reducible refine st_lenL ?_ | with_reducible refine st_lenT ?_ | with_reducible refine st_lenC ?_ | with_reducible refine st_lstL ?_ | with_reducible refine st_lstT ?_ | with_reducible refine st_tupL ?_ | with_reducible refine st_tupT ?_ | with_reducible refine st_reprB ?_ | with_reducible refine st_inS ?_ | with_reducible refine st_getL ?_ | with_reducible refine st_getA ?_ | with_reducible refine st_getC ?_ | with_reducible refine st_putL ?_ | with_reducible refine st_putA ?_ | refine st_dok (by exact Nat.le_of_ble_eq_true rfl) ?_ | refine st_kvs (by decide +kernel) (by decide) ?_)
    refine st_lenS (by omega) ?_
    repeat (first | with_reducible refine st_var (by with_unfolding_all exact rfl) ?_ | with_reducible refine st_seq ?_ | with_reducible refine st_set ?_ | with_reducible refine st_bin ?_ | with_reducible refine st_c ?_ | with_reducible refine st_cb ?_ | with_reducible refine st_cons ?_ | with_reducible refine st_nil ?_ | with_reducible refine st_b1 ?_ | with_reducible refine st_b2 ?_ | with_reducible refine st_test ?_ | with_reducible refine st_ifS ?_ | with_reducible refine st_ret ?_ | with_reducible refine st_retN ?_ | with_reducible refine st_drop ?_ | with_reducible refine st_next ?_ | with_reducible refine st_un ?_ | with_reducible refine st_call ?_ | with_reducible refine st_callK ?_ | with_reducible refine st_and ?_ | with_reducible refine st_or ?_ | with_reducible refine st_not ?_ | with_reducible refine st_yes ?_ | with_reducible refine st_andV ?_ | with_reducible refine st_orV ?_ | with_reducible refine st_notV ?_ | with_reducible refine st_if ?_ | with_reducible refine st_chain ?_ | with_reducible refine st_disp ?_ | with_reducible refine st_newL ?_ | with_reducible refine st_sl ?_ | with_reducible refine st_noP ?_ | with_reducible refine st_part ?_ | with_reducible refine st_dput ?_ | with_reducible refine st_join ?_ | with_reducible refine st_lc ?_ | with_reducible refine st_rng ?_ | with_reducible refine st_it ?_ | with_reducible refine st_for ?_ | with_reducible refine st_isi2 ?_ | with_reducible refine st_dnew ?_ | with_reducible refine st_dict ?_ | with_reducible refine st_pcons ?_ | with_reducible refine st_pnil ?_ | with_reducible refine st_addI ?_ | with_reducible refine st_i0 ?_ | with_reducible refine st_toInt ?_ | with_reducible refine st_i1 ?_ | with_reducible refine st_neg ?_ | with_reducible refine st_lenL ?_ | with_reducible refine st_lenT ?_ | with_reducible refine st_lenC ?_ | with_reducible refine st_lstL ?_ | with_reducible refine st_lstT ?_ | with_reducible refine st_tupL ?_ | with_reducible refine st_tupT ?_ | with_reducible refine st_reprB ?_ | with_reducible refine st_inS ?_ | with_reducible refine st_getL ?_ | with_reducible refine st_getA ?_ | with_reducible refine st_getC ?_ | with_reducible refine st_putL ?_ | with_reducible refine st_putA ?_ | refine st_dok (by exact Nat.le_of_ble_eq_true rfl) ?_ | refine st_kvs (by decide +kernel) (by decide) ?_)
    refine ⟨_, g, R, rfl, rfl, f2.ok, by have := f2.at_; omega, by omega, by omega, fun k f3 k0 k1 fd3 => ?_⟩
    have f3' : Fed 12 f f3 := f2.trans fd3 (by omega)
    repeat (first | with_reducible refine st_var (by with_unfolding_all exact rfl) ?_ | with_reducible refine st_seq ?_ | with_reducible refine st_set ?_ | with_reducible refine st_bin ?_ | with_reducible refine st_c ?_ | with_reducible refine st_cb ?_ | with_reducible refine st_cons ?_ | with_reducible refine st_nil ?_ | with_reducible refine st_b1 ?_ | with_reducible refine st_b2 ?_ | with_reducible refine st_test ?_ | with_reducible refine st_ifS ?_ | with_reducible refine st_ret ?_ | with_reducible refine st_retN ?_ | with_reducible refine st_drop ?_ | with_reducible refine st_next ?_ | with_reducible refine st_un ?_ | with_reducible refine st_call ?_ | with_reducible refine st_callK ?_ | with_reducible refine st_and ?_ | with_reducible refine st_or ?_ | with_reducible refine st_not ?_ | with_reducible refine st_yes ?_ | with_reducible refine st_andV ?_ | with_reducible refine st_orV ?_ | with_reducible refine st_notV ?_ | with_reducible refine st_if ?_ | with_reducible refine st_chain ?_ | with_reducible refine st_disp ?_ | with_reducible refine st_newL ?_ | with_reducible refine st_sl ?_ | with_reducible refine st_noP ?_ | with_reducible refine st_part ?_ | with_reducible refine st_dput ?_ | with_reducible refine st_join ?_ | with_reducible refine st_lc ?_ | with_reducible refine st_rng ?_ | with_reducible refine st_it ?_ | with_reducible refine st_for ?_ | with_reducible refine st_isi2 ?_ | with_reducible refine st_dnew ?_ | with_reducible refine st_dict ?_ | with_reducible refine st_pcons ?_ | with_reducible refine st_pnil ?_ | with_reducible refine st_addI ?_ | with_reducible refine st_i0 ?_ | with_reducible refine st_toInt ?_ | with_reducible refine st_i1 ?_ | with_reducible refine st_neg ?_ | with_reducible refine st_lenL ?_ | with_reducible refine st_lenT ?_ | with_reducible refine st_lenC ?_ | with_reducible refine st_lstL ?_ | with_reducible refine st_lstT ?_ | with_reducible refine st_tupL ?_ | with_reducible refine st_tupT ?_ | with_reducible refine st_reprB ?_ | with_reducible refine st_inS ?_ | with_reducible refine st_getL ?_ | with_reducible refine st_getA ?_ | with_reducible refine st_getC ?_ | with_reducible refine st_putL ?_ | with_reducible refine st_putA ?_ | refine st_dok (by exact Nat.le_of_ble_eq_true rfl) ?_ | refine st_kvs (by decide +kernel) (by decide) ?_)
    refine ⟨.str signs1, f3, R, rfl, rfl, f3'.ok, by have := f3'.at_; omega, by decide +kernel, by decide +kernel, fun p f4 mp fd4 => ?_⟩
    have f4' : Fed 13 f f4 := f3'.trans fd4 (by omega)
    obtain ⟨c, mc, rfl⟩ := opts_str mp
    have hc1 : asc ⟨#[c]⟩ := asc_one (asc_signs1 c mc)
    have l1 : (⟨#[c]⟩ : Str).length = 1 := rfl
    have c1 := cutS_length z none (some k)
    have c2 := cutS_length z (some k) none
    have c3 := cutS_length z (some (k + 1)) none
    have a1 : (cutS z none (some k) ++ (⟨#[c]⟩ : Str)).length = (cutS z none (some k)).length + 1 := Str.length_append _ _
    have a2 : (cutS z none (some k) ++ (⟨#[c]⟩ : Str) ++ cutS z (some k) none).length = (cutS z none (some k) ++ (⟨#[c]⟩ : Str)).length + (cutS z (some k) none).length := Str.length_append _ _
    have a3 : (cutS z none (some k) ++ (⟨#[c]⟩ : Str) ++ cutS z (some (k + 1)) none).length = (cutS z none (some k) ++ (⟨#[c]⟩ : Str)).length + (cutS z (some (k + 1)) none).length := Str.length_append _ _
    repeat (first | with_reducible refine st_var (by with_unfolding_all exact rfl) ?_ | with_reducible refine st_seq ?_ | with_reducible refine st_set ?_ | with_reducible refine st_bin ?_ | with_reducible refine st_c ?_ | with_reducible refine st_cb ?_ | with_reducible refine st_cons ?_ | with_reducible refine st_nil ?_ | with_reducible refine st_b1 ?_ | with_reducible refine st_b2 ?_ | with_reducible refine st_test ?_ | with_reducible refine st_ifS ?_ | with_reducible refine st_ret ?_ | with_reducible refine st_retN ?_ | with_reducible refine st_drop ?_ | with_reducible refine st_next ?_ | with_reducible refine st_un ?_ | with_reducible refine st_call ?_ | with_reducible refine st_callK ?_ | with_reducible refine st_and ?_ | with_reducible refine st_or ?_ | with_reducible refine st_not ?_ | with_reducible refine st_yes ?_ | with_reducible refine st_andV ?_ | with_reducible refine st_orV ?_ | with_reducible refine st_notV ?_ | with_reducible refine st_if ?_ | with_reducible refine st_chain ?_ | with_reducible refine st_disp ?_ | with_reducible refine st_newL ?_ | with_reducible refine st_sl ?_ | with_reducible refine st_noP ?_ | with_reducible refine st_part ?_ | with_reducible refine st_dput ?_ | with_reducible refine st_join ?_ | with_reducible refine st_lc ?_ | with_reducible refine st_rng ?_ | with_reducible refine st_it ?_ | with_reducible refine st_for ?_ | with_reducible refine st_isi2 ?_ | with_reducible refine st_dnew ?_ | with_reducible refine st_dict ?_ | with_reducible refine st_pcons ?_ | with_reducible refine st_pnil ?_ | with_reducible refine st_addI ?_ | with_reducible refine st_i0 ?_ | with_reducible refine st_toInt ?_ | with_reducible refine st_i1 ?_ | with_reducible refine st_neg ?_ | with_reducible refine st_lenL ?_ | with_reducible refine st_lenT ?_ | with_reducible refine st_lenC ?_ | with_reducible refine st_lstL ?_ | with_reducible refine st_lstT ?_ | with_reducible refine st_tupL ?_ | with_reducible refine st_tupT ?_ | with_reducible refine st_reprB ?_ | with_reducible refine st_inS ?_ | with_reducible refine st_getL ?_ | with_reducible refine st_getA ?_ | with_reducible refine st_getC ?_ | with_reducible refine st_putL ?_ | with_reducible refine st_putA ?_ | refine st_dok (by exact Nat.le_of_ble_eq_true rfl) ?_ | refine st_kvs (by decide +kernel) (by decide) ?_)
    refine st_slS (by omega) ?_
    repeat (first | with_reducible refine st_var (by with_unfolding_all exact rfl) ?_ | with_reducible refine st_seq ?_ | with_reducible refine st_set ?_ | with_reducible refine st_bin ?_ | with_reducible refine st_c ?_ | with_reducible refine st_cb ?_ | with_reducible refine st_cons ?_ | with_reducible refine st_nil ?_ | with_reducible refine st_b1 ?_ | with_reducible refine st_b2 ?_ | with_reducible refine st_test ?_ | with_reducible refine st_ifS ?_ | with_reducible refine st_ret ?_ | with_reducible refine st_retN ?_ | with_reducible refine st_drop ?_ | with_reducible refine st_next ?_ | with_reducible refine st_un ?_ | with_reducible refine st_call ?_ | with_reducible refine st_callK ?_ | with_reducible refine st_and ?_ | with_reducible refine st_or ?_ | with_reducible refine st_not ?_ | with_reducible refine st_yes ?_ | with_reducible refine st_andV ?_ | with_reducible refine st_orV ?_ | with_reducible refine st_notV ?_ | with_reducible refine st_if ?_ | with_reducible refine st_chain ?_ | with_reducible refine st_disp ?_ | with_reducible refine st_newL ?_ | with_reducible refine st_sl ?_ | with_reducible refine st_noP ?_ | with_reducible refine st_part ?_ | with_reducible refine st_dput ?_ | with_reducible refine st_join ?_ | with_reducible refine st_lc ?_ | with_reducible refine st_rng ?_ | with_reducible refine st_it ?_ | with_reducible refine st_for ?_ | with_reducible refine st_isi2 ?_ | with_reducible refine st_dnew ?_ | with_reducible refine st_dict ?_ | with_reducible refine st_pcons ?_ | with_reducible refine st_pnil ?_ | with_reducible refine st_addI ?_ | with_reducible refine st_i0 ?_ | with_reducible refine st_toInt ?_ | with_reducible refine st_i1 ?_ | with_reducible refine st_neg ?_ | with_reducible refine st_lenL ?_ | with_reducible refine st_lenT ?_ | with_reducible refine st_lenC ?_ | with_reducible refine st_lstL ?_ | with_reducible refine st_lstT ?_ | with_reducible refine st_tupL ?_ | with_reducible refine st_tupT ?_ | with_reducible refine st_reprB ?_ | with_reducible refine st_inS ?_ | with_reducible refine st_getL ?_ | with_reducible refine st_getA ?_ | with_reducible refine st_getC ?_ | with_reducible refine st_putL ?_ | with_reducible refine st_putA ?_ | refine st_dok (by exact Nat.le_of_ble_eq_true rfl) ?_ | refine st_kvs (by decide +kernel) (by decide) ?_)
    refine st_addS (by omega) ?_
    repeat (first | with_reducible refine st_var (by with_unfolding_all exact rfl) ?_ | with_reducible refine st_seq ?_ | with_reducible refine st_set ?_ | with_reducible refine st_bin ?_ | with_reducible refine st_c ?_ | with_reducible refine st_cb ?_ | with_reducible refine st_cons ?_ | with_reducible refine st_nil ?_ | with_reducible refine st_b1 ?_ | with_reducible refine st_b2 ?_ | with_reducible refine st_test ?_ | with_reducible refine st_ifS ?_ | with_reducible refine st_ret ?_ | with_reducible refine st_retN ?_ | with_reducible refine st_drop ?_ | with_reducible refine st_next ?_ | with_reducible refine st_un ?_ | with_reducible refine st_call ?_ | with_reducible refine st_callK ?_ | with_reducible refine st_and ?_ | with_reducible refine st_or ?_ | with_reducible refine st_not ?_ | with_reducible refine st_yes ?_ | with_reducible refine st_andV ?_ | with_reducible refine st_orV ?_ | with_reducible refine st_notV ?_ | with_reducible refine st_if ?_ | with_reducible refine st_chain ?_ | with_reducible refine st_disp ?_ | with_reducible refine st_newL ?_ | with_reducible refine st_sl ?_ | with_reducible refine st_noP ?_ | with_reducible refine st_part ?_ | with_reducible refine st_dput ?_ | with_reducible refine st_join ?_ | with_reducible refine st_lc ?_ | with_reducible refine st_rng ?_ | with_reducible refine st_it ?_ | with_reducible refine st_for ?_ | with_reducible refine st_isi2 ?_ | with_reducible refine st_dnew ?_ | with_reducible refine st_dict ?_ | with_reducible refine st_pcons ?_ | with_reducible refine st_pnil ?_ | with_reducible refine st_addI ?_ | with_reducible refine st_i0 ?_ | with_reducible refine st_toInt ?_ | with_reducible refine st_i1 ?_ | with_reducible refine st_neg ?_ | with_reducible refine st_lenL ?_ | with_reducible refine st_lenT ?_ | with_reducible refine st_lenC ?_ | with_reducible refine st_lstL ?_ | with_reducible refine st_lstT ?_ | with_reducible refine st_tupL ?_ | with_reducible refine st_tupT ?_ | with_reducible refine st_reprB ?_ | with_reducible refine st_inS ?_ | with_reducible refine st_getL ?_ | with_reducible refine st_getA ?_ | with_reducible refine st_getC ?_ | with_reducible refine st_putL ?_ | with_reducible refine st_putA ?_ | refine st_dok (by exact Nat.le_of_ble_eq_true rfl) ?_ | refine st_kvs (by decide +kernel) (by decide) ?_)
    refine st_slS (by omega) ?_
    refine st_addS (by omega) ?_
    repeat (first | with_reducible refine st_var (by with_unfolding_all exact rfl) ?_ | with_reducible refine st_seq ?_ | with_reducible refine st_set ?_ | with_reducible refine st_bin ?_ | with_reducible refine st_c ?_ | with_reducible refine st_cb ?_ | with_reducible refine st_cons ?_ | with_reducible refine st_nil ?_ | with_reducible refine st_b1 ?_ | with_reducible refine st_b2 ?_ | with_reducible refine st_test ?_ | with_reducible refine st_ifS ?_ | with_reducible refine st_ret ?_ | with_reducible refine st_retN ?_ | with_reducible refine st_drop ?_ | with_reducible refine st_next ?_ | with_reducible refine st_un ?_ | with_reducible refine st_call ?_ | with_reducible refine st_callK ?_ | with_reducible refine st_and ?_ | with_reducible refine st_or ?_ | with_reducible refine st_not ?_ | with_reducible refine st_yes ?_ | with_reducible refine st_andV ?_ | with_reducible refine st_orV ?_ | with_reducible refine st_notV ?_ | with_reducible refine st_if ?_ | with_reducible refine st_chain ?_ | with_reducible refine st_disp ?_ | with_reducible refine st_newL ?_ | with_reducible refine st_sl ?_ | with_reducible refine st_noP ?_ | with_reducible refine st_part ?_ | with_reducible refine st_dput ?_ | with_reducible refine st_join ?_ | with_reducible refine st_lc ?_ | with_reducible refine st_rng ?_ | with_reducible refine st_it ?_ | with_reducible refine st_for ?_ | with_reducible refine st_isi2 ?_ | with_reducible refine st_dnew ?_ | with_reducible refine st_dict ?_ | with_reducible refine st_pcons ?_ | with_reducible refine st_pnil ?_ | with_reducible refine st_addI ?_ | with_reducible refine st_i0 ?_ | with_reducible refine st_toInt ?_ | with_reducible refine st_i1 ?_ | with_reducible refine st_neg ?_ | with_reducible refine st_lenL ?_ | with_reducible refine st_lenT ?_ | with_reducible refine st_lenC ?_ | with_reducible refine st_lstL ?_ | with_reducible refine st_lstT ?_ | with_reducible refine st_tupL ?_ | with_reducible refine st_tupT ?_ | with_reducible refine st_reprB ?_ | with_reducible refine st_inS ?_ | with_reducible refine st_getL ?_ | with_reducible refine st_getA ?_ | with_reducible refine st_getC ?_ | with_reducible refine st_putL ?_ | with_reducible refine st_putA ?_ | refine st_dok (by exact Nat.le_of_ble_eq_true rfl) ?_ | refine st_kvs (by decide +kernel) (by decide) ?_)
    refine st_slS (by omega) ?_
    repeat (first | with_reducible refine st_var (by with_unfolding_all exact rfl) ?_ | with_reducible refine st_seq ?_ | with_reducible refine st_set ?_ | with_reducible refine st_bin ?_ | with_reducible refine st_c ?_ | with_reducible refine st_cb ?_ | with_reducible refine st_cons ?_ | with_reducible refine st_nil ?_ | with_reducible refine st_b1 ?_ | with_reducible refine st_b2 ?_ | with_reducible refine st_test ?_ | with_reducible refine st_ifS ?_ | with_reducible refine st_ret ?_ | with_reducible refine st_retN ?_ | with_reducible refine st_drop ?_ | with_reducible refine st_next ?_ | with_reducible refine st_un ?_ | with_reducible refine st_call ?_ | with_reducible refine st_callK ?_ | with_reducible refine st_and ?_ | with_reducible refine st_or ?_ | with_reducible refine st_not ?_ | with_reducible refine st_yes ?_ | with_reducible refine st_andV ?_ | with_reducible refine st_orV ?_ | with_reducible refine st_notV ?_ | with_reducible refine st_if ?_ | with_reducible refine st_chain ?_ | with_reducible refine st_disp ?_ | with_reducible refine st_newL ?_ | with_reducible refine st_sl ?_ | with_reducible refine st_noP ?_ | with_reducible refine st_part ?_ | with_reducible refine st_dput ?_ | with_reducible refine st_join ?_ | with_reducible refine st_lc ?_ | with_reducible refine st_rng ?_ | with_reducible refine st_it ?_ | with_reducible refine st_for ?_ | with_reducible refine st_isi2 ?_ | with_reducible refine st_dnew ?_ | with_reducible refine st_dict ?_ | with_reducible refine st_pcons ?_ | with_reducible refine st_pnil ?_ | with_reducible refine st_addI ?_ | with_reducible refine st_i0 ?_ | with_reducible refine st_toInt ?_ | with_reducible refine st_i1 ?_ | with_reducible refine st_neg ?_ | with_reducible refine st_lenL ?_ | with_reducible refine st_lenT ?_ | with_reducible refine st_lenC ?_ | with_reducible refine st_lstL ?_ | with_reducible refine st_lstT ?_ | with_reducible refine st_tupL ?_ | with_reducible refine st_tupT ?_ | with_reducible refine st_reprB ?_ | with_reducible refine st_inS ?_ | with_reducible refine st_getL ?_ | with_reducible refine st_getA ?_ | with_reducible refine st_getC ?_ | with_reducible refine st_putL ?_ | with_reducible refine st_putA ?_ | refine st_dok (by exact Nat.le_of_ble_eq_true rfl) ?_ | refine st_kvs (by decide +kernel) (by decide) ?_)
    refine st_addS (by omega) ?_
    repeat (first | with_reducible refine st_var (by with_unfolding_all exact rfl) ?_ | with_reducible refine st_seq ?_ | with_reducible refine st_set ?_ | with_reducible refine st_bin ?_ | with_reducible refine st_c ?_ | with_reducible refine st_cb ?_ | with_reducible refine st_cons ?_ | with_reducible refine st_nil ?_ | with_reducible refine st_b1 ?_ | with_reducible refine st_b2 ?_ | with_reducible refine st_test ?_ | with_reducible refine st_ifS ?_ | with_reducible refine st_ret ?_ | with_reducible refine st_retN ?_ | with_reducible refine st_drop ?_ | with_reducible refine st_next ?_ | with_reducible refine st_un ?_ | with_reducible refine st_call ?_ | with_reducible refine st_callK ?_ | with_reducible refine st_and ?_ | with_reducible refine st_or ?_ | with_reducible refine st_not ?_ | with_reducible refine st_yes ?_ | with_reducible refine st_andV ?_ | with_reducible refine st_orV ?_ | with_reducible refine st_notV ?_ | with_reducible refine st_if ?_ | with_reducible refine st_chain ?_ | with_reducible refine st_disp ?_ | with_reducible refine st_newL ?_ | with_reducible refine st_sl ?_ | with_reducible refine st_noP ?_ | with_reducible refine st_part ?_ | with_reducible refine st_dput ?_ | with_reducible refine st_join ?_ | with_reducible refine st_lc ?_ | with_reducible refine st_rng ?_ | with_reducible refine st_it ?_ | with_reducible refine st_for ?_ | with_reducible refine st_isi2 ?_ | with_reducible refine st_dnew ?_ | with_reducible refine st_dict ?_ | with_reducible refine st_pcons ?_ | with_reducible refine st_pnil ?_ | with_reducible refine st_addI ?_ | with_reducible refine st_i0 ?_ | with_reducible refine st_toInt ?_ | with_reducible refine st_i1 ?_ | with_reducible refine st_neg ?_ | with_reducible refine st_lenL ?_ | with_reducible refine st_lenT ?_ | with_reducible refine st_lenC ?_ | with_reducible refine st_lstL ?_ | with_reducible refine st_lstT ?_ | with_reducible refine st_tupL ?_ | with_reducible refine st_tupT ?_ | with_reducible refine st_reprB ?_ | with_reducible refine st_inS ?_ | with_reducible refine st_getL ?_ | with_reducible refine st_getA ?_ | with_reducible refine st_getC ?_ | with_reducible refine st_putL ?_ | with_reducible refine st_putA ?_ | refine st_dok (by exact Nat.le_of_ble_eq_true rfl) ?_ | refine st_kvs (by decide +kernel) (by decide) ?_)
    refine st_slS (by omega) ?_
    refine st_addS (by omega) ?_
    repeat (first | with_reducible refine st_var (by with_unfolding_all exact rfl) ?_ | with_reducible refine st_seq ?_ | with_reducible refine st_set ?_ | with_reducible refine st_bin ?_ | with_reducible refine st_c ?_ | with_reducible refine st_cb ?_ | with_reducible refine st_cons ?_ | with_reducible refine st_nil ?_ | with_reducible refine st_b1 ?_ | with_reducible refine st_b2 ?_ | with_reducible refine st_test ?_ | with_reducible refine st_ifS ?_ | with_reducible refine st_ret ?_ | with_reducible refine st_retN ?_ | with_reducible refine st_drop ?_ | with_reducible refine st_next ?_ | with_reducible refine st_un ?_ | with_reducible refine st_call ?_ | with_reducible refine st_callK ?_ | with_reducible refine st_and ?_ | with_reducible refine st_or ?_ | with_reducible refine st_not ?_ | with_reducible refine st_yes ?_ | with_reducible refine st_andV ?_ | with_reducible refine st_orV ?_ | with_reducible refine st_notV ?_ | with_reducible refine st_if ?_ | with_reducible refine st_chain ?_ | with_reducible refine st_disp ?_ | with_reducible refine st_newL ?_ | with_reducible refine st_sl ?_ | with_reducible refine st_noP ?_ | with_reducible refine st_part ?_ | with_reducible refine st_dput ?_ | with_reducible refine st_join ?_ | with_reducible refine st_lc ?_ | with_reducible refine st_rng ?_ | with_reducible refine st_it ?_ | with_reducible refine st_for ?_ | with_reducible refine st_isi2 ?_ | with_reducible refine st_dnew ?_ | with_reducible refine st_dict ?_ | with_reducible refine st_pcons ?_ | with_reducible refine st_pnil ?_ | with_reducible refine st_addI ?_ | with_reducible refine st_i0 ?_ | with_reducible refine st_toInt ?_ | with_reducible refine st_i1 ?_ | with_reducible refine st_neg ?_ | with_reducible refine st_lenL ?_ | with_reducible refine st_lenT ?_ | with_reducible refine st_lenC ?_ | with_reducible refine st_lstL ?_ | with_reducible refine st_lstT ?_ | with_reducible refine st_tupL ?_ | with_reducible refine st_tupT ?_ | with_reducible refine st_reprB ?_ | with_reducible refine st_inS ?_ | with_reducible refine st_getL ?_ | with_reducible refine st_getA ?_ | with_reducible refine st_getC ?_ | with_reducible refine st_putL ?_ | with_reducible refine st_putA ?_ | refine st_dok (by exact Nat.le_of_ble_eq_true rfl) ?_ | refine st_kvs (by decide +kernel) (by decide) ?_)
    refine ⟨.lst [.str z, .str z, .str (cutS z none (some k) ++ (⟨#[c]⟩ : Str) ++ cutS z (some k) none), .str (cutS z none (some k) ++ (⟨#[c]⟩ : Str) ++ cutS z (some (k + 1)) none)], f4, R, rfl, rfl, f4'.ok, by have := f4'.at_; omega, (fun q => by cases q), (by show 4 ≤ sizeLine; omega), fun p f5 mp fd5 => ?_⟩
    have f5' : Fed 14 f f5 := f4'.trans fd5 (by omega)
    have q : p = .str z ∨ p = .str z ∨ p = .str (cutS z none (some k) ++ (⟨#[c]⟩ : Str) ++ cutS z (some k) none) ∨ p = .str (cutS z none (some k) ++ (⟨#[c]⟩ : Str) ++ cutS z (some (k + 1)) none) := by
      simpa [optsOf] using mp
    rcases q with rfl | rfl | rfl | rfl
    · exact st_rtP rfl (h _ _ (by omega) za f5')
    · exact st_rtP rfl (h _ _ (by omega) za f5')
    · exact st_rtP rfl (h _ _ (by omega) (asc_app (asc_app (asc_cut za) hc1) (asc_cut za)) f5')
    · exact st_rtP rfl (h _ _ (by omega) (asc_app (asc_app (asc_cut za) hc1) (asc_cut za)) f5')
abbrev sA : Str := Str.ofString "a"
abbrev anyA : List RB.P := [.non, .bl true, .bl false, .int 0, .int 1, .int (-1), .int 12, .int (10 ^ 29), .str (Str.ofString ""), .str sA, .str (Str.ofString "abcdefgh"), .str (Str.ofString "abcdefghi"), .str (Str.ofString "A"), .str (Str.ofString "a b"), .str (Str.ofString "a1"), .str (Str.ofString "0"), .str (Str.ofString "zz")]
abbrev anyB : List RB.P := [.str (Str.ofString "~"), .str (Str.ofString "#"), .str (Str.ofString "a\n"), .tup [], .lst [], .dK [] [], .tup [.str sA, .int 1, .non], .lst [.tup [.str sA, .int 1, .non]], .tup [.str (Str.ofString "lay"), .str sA], .dK [.inr sA] [.int 1]]
def AnyV : Nat → RB.P → Prop
  | 0, v => v ∈ anyA ++ anyB
  | n + 1, v => v ∈ anyA ++ anyB ∨ ∃ xs : List RB.P, xs.length ≤ 3 ∧ (∀ x ∈ xs, AnyV n x) ∧ (v = .lst xs ∨ v = .tup xs ∨ v = .dK [.inr sA] [.tup xs])
def cAny : Nat → Int
  | 0 => 1
  | n + 1 => 3 * cAny n + 2
theorem cAny_pos : ∀ n, 1 ≤ cAny n
  | 0 => Int.le_refl _
  | n + 1 => by
    have := cAny_pos n
    show 1 ≤ 3 * cAny n + 2
    omega
def sp__law_any (n : Nat) : DSp := fun ds S Q _ => ∃ (m : Nat) (f : Feed) (R : Store), ds = [.cell 0, .p (.int m)] ∧ S = feedC f :: R ∧ m < n ∧ FOk f ∧ f.at_ + cAny m ≤ LIM ∧ ∀ v f', AnyV m v → Fed (cAny m) f f' → Q (.p v) (feedC f' :: R)
theorem mon__law_any {n : Nat} : DMon (sp__law_any n) := fun ds S Q Q' E E' hq he ⟨m, f, R, h1, h2, h3, h4, h5, h⟩ => ⟨m, f, R, h1, h2, h3, h4, h5, fun z f' a b => hq _ _ (h z f' a b)⟩
theorem len__law_any {n : Nat} : ∀ ds S Q E, sp__law_any n ds S Q E → ds.length = 2 := fun ds S Q E ⟨_, _, _, h1, _⟩ => by rw [h1]; rfl
abbrev N__law_any : List Str := [(Str.ofString "_law_feed_here"), (Str.ofString "_law_deep"), (Str.ofString "_law_some"), (Str.ofString "_law_inner"), (Str.ofString "_law_k")]
abbrev ps__law_any : List Str := [(Str.ofString "_law_feed_here"), (Str.ofString "_law_deep")]
abbrev w__law_any_1 (RECSP : DSp) : WE := wCall RECSP [] (wCons (wVar 0) (wCons (wBin dSub (wVar 1) (wC (.p (.int 1)))) wNil))
abbrev w__law_any_2 (RECSP : DSp) : WS := wSet 2 (wBin dAdd (wVar 2) (wDisp .lst (wCons (wVar 3) (wCons (wCB (b1 dTupleOf) (wCons (wVar 3) wNil)) (wCons (wDictP [((wC (.p (.str (Str.ofString "a")))), (wCB (b1 dTupleOf) (wCons (wVar 3) wNil)))]) wNil)))))
abbrev w__law_any_3 (RECSP : DSp) : WS := wSeq (wSet 3 (wLC (wRng (wCons (wCall sp__law_draw [] (wCons (wVar 0) (wCons (wC (.p (.int 4))) wNil))) wNil)) (.nm 4) wYes (w__law_any_1 RECSP) [4])) (w__law_any_2 RECSP)
abbrev w__law_any_4 (RECSP : DSp) : WS := wRet (wCall sp__law_pick [] (wCons (wVar 0) (wCons (wVar 2) wNil)))
abbrev w__law_any_5 (RECSP : DSp) : WS := wSeq (wIfS (wTest (wBin dGt (wVar 1) (wC (.p (.int 0))))) (w__law_any_3 RECSP) wNext) (w__law_any_4 RECSP)
abbrev w__law_any_6 (RECSP : DSp) : WS := wSeq (wSet 2 (wBin dAdd (wVar 2) (wDisp .lst (wCons (wC (.p (.str (Str.ofString "~")))) (wCons (wC (.p (.str (Str.ofString "#")))) (wCons (wC (.p (.str (Str.ofString "a\n")))) (wCons (wDisp .tup wNil) (wCons (wDisp .lst wNil) (wCons wDNew (wCons (wDisp .tup (wCons (wC (.p (.str (Str.ofString "a")))) (wCons (wC (.p (.int 1))) (wCons (wC (.p .non)) wNil)))) (wCons (wDisp .lst (wCons (wDisp .tup (wCons (wC (.p (.str (Str.ofString "a")))) (wCons (wC (.p (.int 1))) (wCons (wC (.p .non)) wNil)))) wNil)) (wCons (wDisp .tup (wCons (wC (.p (.str (Str.ofString "lay")))) (wCons (wC (.p (.str (Str.ofString "a")))) wNil))) (wCons (wDictP [((wC (.p (.str (Str.ofString "a")))), (wC (.p (.int 1))))]) wNil))))))))))))) (w__law_any_5 RECSP)
abbrev w__law_any_7 (RECSP : DSp) : WS := wSeq (wSet 2 (wDisp .lst (wCons (wC (.p .non)) (wCons (wC (.p (.bl true))) (wCons (wC (.p (.bl false))) (wCons (wC (.p (.int 0))) (wCons (wC (.p (.int 1))) (wCons (wUn dNeg (wC (.p (.int 1)))) (wCons (wC (.p (.int 12))) (wCons (wBin dPow (wC (.p (.int 10))) (wC (.p (.int 29)))) (wCons (wC (.p (.str (Str.ofString "")))) (wCons (wC (.p (.str (Str.ofString "a")))) (wCons (wC (.p (.str (Str.ofString "abcdefgh")))) (wCons (wC (.p (.str (Str.ofString "abcdefghi")))) (wCons (wC (.p (.str (Str.ofString "A")))) (wCons (wC (.p (.str (Str.ofString "a b")))) (wCons (wC (.p (.str (Str.ofString "a1")))) (wCons (wC (.p (.str (Str.ofString "0")))) (wCons (wC (.p (.str (Str.ofString "zz")))) wNil))))))))))))))))))) (w__law_any_6 RECSP)
abbrev w__law_any (RECSP : DSp) : WS :=
  (w__law_any_7 RECSP)

theorem pur__law_any {n : Nat} : ∀ ds S Q E, sp__law_any (n + 1) ds S Q E → w__law_any (sp__law_any n) (endsF S.length Q E) (startR N__law_any ds) S := by
  rintro ds S Q E ⟨m, f, R, rfl, rfl, hmn, ok, hat, h⟩
  have e : startR N__law_any [.cell 0, .p (.int m)] = [some (.cell 0), some (.p (.int m)), none, none, none] := rfl
  rw [e]
  have hpow : CPow 10 29 := by
    unfold CPow
    decide
  have hs : sizeLine = 16777216 := rfl
  have c0 := cAny_pos m
  repeat (first | with_reducible refine st_var (by with_unfolding_all exact rfl) ?_ | with_reducible refine st_seq ?_ | with_reducible refine st_set ?_ | with_reducible refine st_bin ?_ | with_reducible refine st_c ?_ | with_reducible refine st_cb ?_ | with_reducible refine st_cons ?_ | with_reducible refine st_nil ?_ | with_reducible refine st_b1 ?_ | with_reducible refine st_b2 ?_ | with_reducible refine st_test ?_ | with_reducible refine st_ifS ?_ | with_reducible refine st_ret ?_ | with_reducible refine st_retN ?_ | with_reducible refine st_drop ?_ | with_reducible refine st_next ?_ | with_reducible refine st_un ?_ | with_reducible refine st_call ?_ | with_reducible refine st_callK ?_ | with_reducible refine st_and ?_ | with_reducible refine st_or ?_ | with_reducible refine st_not ?_ | with_reducible refine st_yes ?_ | with_reducible refine st_andV ?_ | with_reducible refine st_orV ?_ | with_reducible refine st_notV ?_ | with_reducible refine st_if ?_ | with_reducible refine st_chain ?_ | with_reducible refine st_disp ?_ | with_reducible refine st_newL ?_ | with_reducible refine st_sl ?_ | with_reducible refine st_noP ?_ | with_reducible refine st_part ?_ | with_reducible refine st_dput ?_ | with_reducible refine st_join ?_ | with_reducible refine st_lc ?_ | with_reducible refine st_rng ?_ | with_reducible refine st_it ?_ | with_reducible refine st_for ?_ | with_reducible refine st_isi2 ?_ | with_reducible refine st_dnew ?_ | with_reducible refine st_dict ?_ | with_reducible refine st_pcons ?_ | with_reducible refine st_pnil ?_ | with_reducible refine st_addI ?_ | with_reducible refine st_i0 ?_ | with_reducible refine st_toInt ?_ | with_reducible refine st_i1 ?_ | with_reducible refine st_neg ?_ | with_reducible refine st_lenL ?_ | with_reducible refine st_lenT ?_ | with_reducible refine st_lenC ?_ | with_reducible refine st_lstL ?_ | with_reducible refine st_lstT ?_ | with_reducible refine st_tupL ?_ | with_reducible refine st_tupT ?_ | with_reducible refine st_reprB ?_ | with_reducible refine st_inS ?_ | with_reducible refine st_getL ?_ | with_reducible refine st_getA ?_ | with_reducible refine st_getC ?_ | with_reducible refine st_putL ?_ | with_reducible refine st_putA ?_ | refine st_dok (by exact Nat.le_of_ble_eq_true rfl) ?_ | refine st_kvs (by decide +kernel) (by decide) ?_)
  refine st_i hpow ?_
  repeat (first | with_reducible refine st_var (by with_unfolding_all exact rfl) ?_ | with_reducible refine st_seq ?_ | with_reducible refine st_set ?_ | with_reducible refine st_bin ?_ | with_reducible refine st_c ?_ | with_reducible refine st_cb ?_ | with_reducible refine st_cons ?_ | with_reducible refine st_nil ?_ | with_reducible refine st_b1 ?_ | with_reducible refine st_b2 ?_ | with_reducible refine st_test ?_ | with_reducible refine st_ifS ?_ | with_reducible refine st_ret ?_ | with_reducible refine st_retN ?_ | with_reducible refine st_drop ?_ | with_reducible refine st_next ?_ | with_reducible refine st_un ?_ | with_reducible refine st_call ?_ | with_reducible refine st_callK ?_ | with_reducible refine st_and ?_ | with_reducible refine st_or ?_ | with_reducible refine st_not ?_ | with_reducible refine st_yes ?_ | with_reducible refine st_andV ?_ | with_reducible refine st_orV ?_ | with_reducible refine st_notV ?_ | with_reducible refine st_if ?_ | with_reducible refine st_chain ?_ | with_reducible refine st_disp ?_ | with_reducible refine st_newL ?_ | with_reducible refine st_sl ?_ | with_reducible refine st_noP ?_ | with_reducible refine st_part ?_ | with_reducible refine st_dput ?_ | with_reducible refine st_join ?_ | with_reducible refine st_lc ?_ | with_reducible refine st_rng ?_ | with_reducible refine st_it ?_ | with_reducible refine st_for ?_ | with_reducible refine st_isi2 ?_ | with_reducible refine st_dnew ?_ | with_reducible refine st_dict ?_ | with_reducible refine st_pcons ?_ | with_reducible refine st_pnil ?_ | with_reducible refine st_addI ?_ | with_reducible refine st_i0 ?_ | with_reducible refine st_toInt ?_ | with_reducible refine st_i1 ?_ | with_reducible refine st_neg ?_ | with_reducible refine st_lenL ?_ | with_reducible refine st_lenT ?_ | with_reducible refine st_lenC ?_ | with_reducible refine st_lstL ?_ | with_reducible refine st_lstT ?_ | with_reducible refine st_tupL ?_ | with_reducible refine st_tupT ?_ | with_reducible refine st_reprB ?_ | with_reducible refine st_inS ?_ | with_reducible refine st_getL ?_ | with_reducible refine st_getA ?_ | with_reducible refine st_getC ?_ | with_reducible refine st_putL ?_ | with_reducible refine st_putA ?_ | refine st_dok (by exact Nat.le_of_ble_eq_true rfl) ?_ | refine st_kvs (by decide +kernel) (by decide) ?_)
  refine st_addL (by decide) ?_
  repeat (first | with_reducible refine st_var (by with_unfolding_all exact rfl) ?_ | with_reducible refine st_seq ?_ | with_reducible refine st_set ?_ | with_reducible refine st_bin ?_ | with_reducible refine st_c ?_ | with_reducible refine st_cb ?_ | with_reducible refine st_cons ?_ | with_reducible refine st_nil ?_ | with_reducible refine st_b1 ?_ | with_reducible refine st_b2 ?_ | with_reducible refine st_test ?_ | with_reducible refine st_ifS ?_ | with_reducible refine st_ret ?_ | with_reducible refine st_retN ?_ | with_reducible refine st_drop ?_ | with_reducible refine st_next ?_ | with_reducible refine st_un ?_ | with_reducible refine st_call ?_ | with_reducible refine st_callK ?_ | with_reducible refine st_and ?_ | with_reducible refine st_or ?_ | with_reducible refine st_not ?_ | with_reducible refine st_yes ?_ | with_reducible refine st_andV ?_ | with_reducible refine st_orV ?_ | with_reducible refine st_notV ?_ | with_reducible refine st_if ?_ | with_reducible refine st_chain ?_ | with_reducible refine st_disp ?_ | with_reducible refine st_newL ?_ | with_reducible refine st_sl ?_ | with_reducible refine st_noP ?_ | with_reducible refine st_part ?_ | with_reducible refine st_dput ?_ | with_reducible refine st_join ?_ | with_reducible refine st_lc ?_ | with_reducible refine st_rng ?_ | with_reducible refine st_it ?_ | with_reducible refine st_for ?_ | with_reducible refine st_isi2 ?_ | with_reducible refine st_dnew ?_ | with_reducible refine st_dict ?_ | with_reducible refine st_pcons ?_ | with_reducible refine st_pnil ?_ | with_reducible refine st_addI ?_ | with_reducible refine st_i0 ?_ | with_reducible refine st_toInt ?_ | with_reducible refine st_i1 ?_ | with_reducible refine st_neg ?_ | with_reducible refine st_lenL ?_ | with_reducible refine st_lenT ?_ | with_reducible refine st_lenC ?_ | with_reducible refine st_lstL ?_ | with_reducible refine st_lstT ?_ | with_reducible refine st_tupL ?_ | with_reducible refine st_tupT ?_ | with_reducible refine st_reprB ?_ | with_reducible refine st_inS ?_ | with_reducible refine st_getL ?_ | with_reducible refine st_getA ?_ | with_reducible refine st_getC ?_ | with_reducible refine st_putL ?_ | with_reducible refine st_putA ?_ | refine st_dok (by exact Nat.le_of_ble_eq_true rfl) ?_ | refine st_kvs (by decide +kernel) (by decide) ?_)
  refine st_ite (fun c => ?_) (fun c => ?_)
  · cases m with
    | zero => cases c
    | succ m =>
      have hc : cAny (m + 1) = 3 * cAny m + 2 := rfl
      repeat (first | with_reducible refine st_var (by with_unfolding_all exact rfl) ?_ | with_reducible refine st_seq ?_ | with_reducible refine st_set ?_ | with_reducible refine st_bin ?_ | with_reducible refine st_c ?_ | with_reducible refine st_cb ?_ | with_reducible refine st_cons ?_ | with_reducible refine st_nil ?_ | with_reducible refine st_b1 ?_ | with_reducible refine st_b2 ?_ | with_reducible refine st_test ?_ | with_reducible refine st_ifS ?_ | with_reducible refine st_ret ?_ | with_reducible refine st_retN ?_ | with_reducible refine st_drop ?_ | with_reducible refine st_next ?_ | with_reducible refine st_un ?_ | with_reducible refine st_call ?_ | with_reducible refine st_callK ?_ | with_reducible refine st_and ?_ | with_reducible refine st_or ?_ | with_reducible refine st_not ?_ | with_reducible refine st_yes ?_ | with_reducible refine st_andV ?_ | with_reducible refine st_orV ?_ | with_reducible refine st_notV ?_ | with_reducible refine st_if ?_ | with_reducible refine st_chain ?_ | with_reducible refine st_disp ?_ | with_reducible refine st_newL ?_ | with_reducible refine st_sl ?_ | with_reducible refine st_noP ?_ | with_reducible refine st_part ?_ | with_reducible refine st_dput ?_ | with_reducible refine st_join ?_ | with_reducible refine st_lc ?_ | with_reducible refine st_rng ?_ | with_reducible refine st_it ?_ | with_reducible refine st_for ?_ | with_reducible refine st_isi2 ?_ | with_reducible refine st_dnew ?_ | with_reducible refine st_dict ?_ | with_reducible refine st_pcons ?_ | with_reducible refine st_pnil ?_ | with_reducible refine st_addI ?_ | with_reducible refine st_i0 ?_ | with_reducible refine st_toInt ?_ | with_reducible refine st_i1 ?_ | with_reducible refine st_neg ?_ | with_reducible refine st_lenL ?_ | with_reducible refine st_lenT ?_ | with_reducible refine st_lenC ?_ | with_reducible refine st_lstL ?_ | with_reducible refine st_lstT ?_ | with_reducible refine st_tupL ?_ | with_reducible refine st_tupT ?_ | with_reducible refine st_reprB ?_ | with_reducible refine st_inS ?_ | with_reducible refine st_getL ?_ | with_reducible refine st_getA ?_ | with_reducible refine st_getC ?_ | with_reducible refine st_putL ?_ | with_reducible refine st_putA ?_ | refine st_dok (by exact Nat.le_of_ble_eq_true rfl) ?_ | refine st_kvs (by decide +kernel) (by decide) ?_)
      refine ⟨4, f, R, rfl, rfl, ok, by omega, by decide, by decide, fun d f1 d0 d1 fd => ?_⟩
      refine ⟨by omega, by omega, ?_⟩
      have ln : (rngD 0 d.toNat).length = d.toNat := by simp [rngD]
      refine lcRun_inv (fun j acc S => ∃ g, S = feedC g :: R ∧ Fed (j * cAny m) f1 g ∧ acc.length = j ∧ ∀ x ∈ acc, AnyV m x) ?_ ⟨f1, rfl, ⟨fd.ok, by simp⟩, rfl, fun _ m => by cases m⟩ (by omega) ?_
      · rintro j x acc S K hx ⟨g, rfl, fg, hj, ha⟩
        have hjd : j < d.toNat := by
          have := (List.getElem?_eq_some_iff.mp hx).1
          omega
        have cm := cAny_pos m
        have hjm : (j : Int) * cAny m ≤ 2 * cAny m := Int.mul_le_mul_of_nonneg_right (by omega) (by omega)
        refine ⟨_, rfl, fun hk => ?_⟩
        repeat (first | with_reducible refine st_var (by with_unfolding_all exact rfl) ?_ | with_reducible refine st_seq ?_ | with_reducible refine st_set ?_ | with_reducible refine st_bin ?_ | with_reducible refine st_c ?_ | with_reducible refine st_cb ?_ | with_reducible refine st_cons ?_ | with_reducible refine st_nil ?_ | with_reducible refine st_b1 ?_ | with_reducible refine st_b2 ?_ | with_reducible refine st_test ?_ | with_reducible refine st_ifS ?_ | with_reducible refine st_ret ?_ | with_reducible refine st_retN ?_ | with_reducible refine st_drop ?_ | with_reducible refine st_next ?_ | with_reducible refine st_un ?_ | with_reducible refine st_call ?_ | with_reducible refine st_callK ?_ | with_reducible refine st_and ?_ | with_reducible refine st_or ?_ | with_reducible refine st_not ?_ | with_reducible refine st_yes ?_ | with_reducible refine st_andV ?_ | with_reducible refine st_orV ?_ | with_reducible refine st_notV ?_ | with_reducible refine st_if ?_ | with_reducible refine st_chain ?_ | with_reducible refine st_disp ?_ | with_reducible refine st_newL ?_ | with_reducible refine st_sl ?_ | with_reducible refine st_noP ?_ | with_reducible refine st_part ?_ | with_reducible refine st_dput ?_ | with_reducible refine st_join ?_ | with_reducible refine st_lc ?_ | with_reducible refine st_rng ?_ | with_reducible refine st_it ?_ | with_reducible refine st_for ?_ | with_reducible refine st_isi2 ?_ | with_reducible refine st_dnew ?_ | with_reducible refine st_dict ?_ | with_reducible refine st_pcons ?_ | with_reducible refine st_pnil ?_ | with_reducible refine st_addI ?_ | with_reducible refine st_i0 ?_ | with_reducible refine st_toInt ?_ | with_reducible refine st_i1 ?_ | with_reducible refine st_neg ?_ | with_reducible refine st_lenL ?_ | with_reducible refine st_lenT ?_ | with_reducible refine st_lenC ?_ | with_reducible refine st_lstL ?_ | with_reducible refine st_lstT ?_ | with_reducible refine st_tupL ?_ | with_reducible refine st_tupT ?_ | with_reducible refine st_reprB ?_ | with_reducible refine st_inS ?_ | with_reducible refine st_getL ?_ | with_reducible refine st_getA ?_ | with_reducible refine st_getC ?_ | with_reducible refine st_putL ?_ | with_reducible refine st_putA ?_ | refine st_dok (by exact Nat.le_of_ble_eq_true rfl) ?_ | refine st_kvs (by decide +kernel) (by decide) ?_)
        refine ⟨m, g, R, ?_, rfl, by omega, fg.ok, ?_, fun v g' hv fv => ?_⟩
        · show [RB.D.cell 0, RB.D.p (.int (((m + 1 : Nat) : Int) - 1))] = _
          rw [show (((m + 1 : Nat) : Int) - 1) = (m : Int) by omega]
        · have := fd.at_
          have := fg.at_
          omega
        · refine hk _ _ ⟨g', rfl, fg.trans fv ?_, by simp [hj], fun x mx => ?_⟩
          · have : ((j + 1 : Nat) : Int) * cAny m = j * cAny m + cAny m := by
              rw [Int.natCast_add, Int.add_mul]
              simp
            omega
          · rcases List.mem_append.mp mx with mx | mx
            · exact ha x mx
            · have e : x = v := by simpa using mx
              rw [e]
              exact hv
      · rintro acc S ⟨g, rfl, fg, hj, ha⟩
        have cm := cAny_pos m
        have hjm : (((rngD 0 d.toNat).length : Nat) : Int) * cAny m ≤ 3 * cAny m := Int.mul_le_mul_of_nonneg_right (by omega) (by omega)
        have f2 : Fed (3 * cAny m + 1) f g := fd.trans fg (by omega)
        repeat (first | with_reducible refine st_var (by with_unfolding_all exact rfl) ?_ | with_reducible refine st_seq ?_ | with_reducible refine st_set ?_ | with_reducible refine st_bin ?_ | with_reducible refine st_c ?_ | with_reducible refine st_cb ?_ | with_reducible refine st_cons ?_ | with_reducible refine st_nil ?_ | with_reducible refine st_b1 ?_ | with_reducible refine st_b2 ?_ | with_reducible refine st_test ?_ | with_reducible refine st_ifS ?_ | with_reducible refine st_ret ?_ | with_reducible refine st_retN ?_ | with_reducible refine st_drop ?_ | with_reducible refine st_next ?_ | with_reducible refine st_un ?_ | with_reducible refine st_call ?_ | with_reducible refine st_callK ?_ | with_reducible refine st_and ?_ | with_reducible refine st_or ?_ | with_reducible refine st_not ?_ | with_reducible refine st_yes ?_ | with_reducible refine st_andV ?_ | with_reducible refine st_orV ?_ | with_reducible refine st_notV ?_ | with_reducible refine st_if ?_ | with_reducible refine st_chain ?_ | with_reducible refine st_disp ?_ | with_reducible refine st_newL ?_ | with_reducible refine st_sl ?_ | with_reducible refine st_noP ?_ | with_reducible refine st_part ?_ | with_reducible refine st_dput ?_ | with_reducible refine st_join ?_ | with_reducible refine st_lc ?_ | with_reducible refine st_rng ?_ | with_reducible refine st_it ?_ | with_reducible refine st_for ?_ | with_reducible refine st_isi2 ?_ | with_reducible refine st_dnew ?_ | with_reducible refine st_dict ?_ | with_reducible refine st_pcons ?_ | with_reducible refine st_pnil ?_ | with_reducible refine st_addI ?_ | with_reducible refine st_i0 ?_ | with_reducible refine st_toInt ?_ | with_reducible refine st_i1 ?_ | with_reducible refine st_neg ?_ | with_reducible refine st_lenL ?_ | with_reducible refine st_lenT ?_ | with_reducible refine st_lenC ?_ | with_reducible refine st_lstL ?_ | with_reducible refine st_lstT ?_ | with_reducible refine st_tupL ?_ | with_reducible refine st_tupT ?_ | with_reducible refine st_reprB ?_ | with_reducible refine st_inS ?_ | with_reducible refine st_getL ?_ | with_reducible refine st_getA ?_ | with_reducible refine st_getC ?_ | with_reducible refine st_putL ?_ | with_reducible refine st_putA ?_ | refine st_dok (by exact Nat.le_of_ble_eq_true rfl) ?_ | refine st_kvs (by decide +kernel) (by decide) ?_)
        refine st_addL (Nat.le_of_ble_eq_true rfl) ?_
        repeat (first | with_reducible refine st_var (by with_unfolding_all exact rfl) ?_ | with_reducible refine st_seq ?_ | with_reducible refine st_set ?_ | with_reducible refine st_bin ?_ | with_reducible refine st_c ?_ | with_reducible refine st_cb ?_ | with_reducible refine st_cons ?_ | with_reducible refine st_nil ?_ | with_reducible refine st_b1 ?_ | with_reducible refine st_b2 ?_ | with_reducible refine st_test ?_ | with_reducible refine st_ifS ?_ | with_reducible refine st_ret ?_ | with_reducible refine st_retN ?_ | with_reducible refine st_drop ?_ | with_reducible refine st_next ?_ | with_reducible refine st_un ?_ | with_reducible refine st_call ?_ | with_reducible refine st_callK ?_ | with_reducible refine st_and ?_ | with_reducible refine st_or ?_ | with_reducible refine st_not ?_ | with_reducible refine st_yes ?_ | with_reducible refine st_andV ?_ | with_reducible refine st_orV ?_ | with_reducible refine st_notV ?_ | with_reducible refine st_if ?_ | with_reducible refine st_chain ?_ | with_reducible refine st_disp ?_ | with_reducible refine st_newL ?_ | with_reducible refine st_sl ?_ | with_reducible refine st_noP ?_ | with_reducible refine st_part ?_ | with_reducible refine st_dput ?_ | with_reducible refine st_join ?_ | with_reducible refine st_lc ?_ | with_reducible refine st_rng ?_ | with_reducible refine st_it ?_ | with_reducible refine st_for ?_ | with_reducible refine st_isi2 ?_ | with_reducible refine st_dnew ?_ | with_reducible refine st_dict ?_ | with_reducible refine st_pcons ?_ | with_reducible refine st_pnil ?_ | with_reducible refine st_addI ?_ | with_reducible refine st_i0 ?_ | with_reducible refine st_toInt ?_ | with_reducible refine st_i1 ?_ | with_reducible refine st_neg ?_ | with_reducible refine st_lenL ?_ | with_reducible refine st_lenT ?_ | with_reducible refine st_lenC ?_ | with_reducible refine st_lstL ?_ | with_reducible refine st_lstT ?_ | with_reducible refine st_tupL ?_ | with_reducible refine st_tupT ?_ | with_reducible refine st_reprB ?_ | with_reducible refine st_inS ?_ | with_reducible refine st_getL ?_ | with_reducible refine st_getA ?_ | with_reducible refine st_getC ?_ | with_reducible refine st_putL ?_ | with_reducible refine st_putA ?_ | refine st_dok (by exact Nat.le_of_ble_eq_true rfl) ?_ | refine st_kvs (by decide +kernel) (by decide) ?_)
        refine ⟨.lst ((anyA ++ anyB) ++ [.lst acc, .tup acc, .dK [.inr sA] [.tup acc]]), g, R, rfl, rfl, f2.ok, by have := f2.at_; omega, (fun q => by cases q), Nat.le_of_ble_eq_true rfl, fun p g' mp fp => ?_⟩
        refine st_rtP rfl (h _ _ ?_ (f2.trans fp (by omega)))
        have mp' : p ∈ (anyA ++ anyB) ++ [.lst acc, .tup acc, .dK [.inr sA] [.tup acc]] := mp
        rcases List.mem_append.mp mp' with q | q
        · exact .inl q
        · exact .inr ⟨acc, by omega, ha, by simpa using q⟩
  · have hm : m = 0 := by
      have := of_decide_eq_false c
      omega
    subst hm
    repeat (first | with_reducible refine st_var (by with_unfolding_all exact rfl) ?_ | with_reducible refine st_seq ?_ | with_reducible refine st_set ?_ | with_reducible refine st_bin ?_ | with_reducible refine st_c ?_ | with_reducible refine st_cb ?_ | with_reducible refine st_cons ?_ | with_reducible refine st_nil ?_ | with_reducible refine st_b1 ?_ | with_reducible refine st_b2 ?_ | with_reducible refine st_test ?_ | with_reducible refine st_ifS ?_ | with_reducible refine st_ret ?_ | with_reducible refine st_retN ?_ | with_reducible refine st_drop ?_ | with_reducible refine st_next ?_ | with_reducible refine st_un ?_ | with_reducible refine st_call ?_ | with_reducible refine st_callK ?_ | with_reducible refine st_and ?_ | with_reducible refine st_or ?_ | with_reducible refine st_not ?_ | with_reducible refine st_yes ?_ | with_reducible refine st_andV ?_ | with_reducible refine st_orV ?_ | with_reducible refine st_notV ?_ | with_reducible refine st_if ?_ | with_reducible refine st_chain ?_ | with_reducible refine st_disp ?_ | with_reducible refine st_newL ?_ | with_reducible refine st_sl ?_ | with_reducible refine st_noP ?_ | with_reducible refine st_part ?_ | with_reducible refine st_dput ?_ | with_reducible refine st_join ?_ | with_reducible refine st_lc ?_ | with_reducible refine st_rng ?_ | with_reducible refine st_it ?_ | with_reducible refine st_for ?_ | with_reducible refine st_isi2 ?_ | with_reducible refine st_dnew ?_ | with_reducible refine st_dict ?_ | with_reducible refine st_pcons ?_ | with_reducible refine st_pnil ?_ | with_reducible refine st_addI ?_ | with_reducible refine st_i0 ?_ | with_reducible refine st_toInt ?_ | with_reducible refine st_i1 ?_ | with_reducible refine st_neg ?_ | with_reducible refine st_lenL ?_ | with_reducible refine st_lenT ?_ | with_reducible refine st_lenC ?_ | with_reducible refine st_lstL ?_ | with_reducible refine st_lstT ?_ | with_reducible refine st_tupL ?_ | with_reducible refine st_tupT ?_ | with_reducible refine st_reprB ?_ | with_reducible refine st_inS ?_ | with_reducible refine st_getL ?_ | with_reducible refine st_getA ?_ | with_reducible refine st_getC ?_ | with_reducible refine st_putL ?_ | with_reducible refine st_putA ?_ | refine st_dok (by exact Nat.le_of_ble_eq_true rfl) ?_ | refine st_kvs (by decide +kernel) (by decide) ?_)
    refine ⟨.lst (anyA ++ anyB), f, R, rfl, rfl, ok, hat, (fun q => by cases q), by decide, fun p g' mp fp => ?_⟩
    exact st_rtP rfl (h _ _ mp fp)
theorem nil__law_any : ∀ ds S Q E, ¬ sp__law_any 0 ds S Q E := fun _ _ _ _ ⟨_, _, _, _, _, h, _⟩ => Nat.not_lt_zero _ h
/-! ### the law -/
def sp_law : DSp := fun ds S Q _ => ∃ ns : List Int, ds = [.p (.scr (ns.map RB.P.int))] ∧ S = [] ∧ ns.length ≤ 63 ∧ ∀ S, Q (.p (.bl true)) S
theorem mon_law : DMon sp_law := fun ds S Q Q' E E' hq he ⟨ns, h1, h2, h3, h⟩ => ⟨ns, h1, h2, h3, fun S => hq _ _ (h S)⟩
theorem len_law : ∀ ds S Q E, sp_law ds S Q E → ds.length = 1 := fun ds S Q E ⟨ns, h1, _⟩ => by rw [h1]; rfl
theorem tame_any {m : Nat} {v : RB.P} (h : AnyV m v) : tame v := by
  have base : ∀ v ∈ anyA ++ anyB, tame v := by
    intro v hv
    simp only [List.cons_append, List.nil_append, List.mem_cons, List.not_mem_nil, or_false] at hv
    rcases hv with rfl | rfl | rfl | rfl | rfl | rfl | rfl | rfl | rfl | rfl | rfl | rfl | rfl | rfl | rfl | rfl | rfl | rfl | rfl | rfl | rfl | rfl | rfl | rfl | rfl | rfl | rfl <;> first | trivial | (show _ ∧ _; decide +kernel)
  cases m with
  | zero => exact base v h
  | succ m =>
    rcases h with h | ⟨xs, _, _, h⟩
    · exact base v h
    · rcases h with rfl | rfl | rfl <;> trivial
theorem reprB_eq (b : Bool) (Q : DK) (S : Store) (h : Q (.p (.bl false)) S) : dEqv true (.p (.str (if b then "True" else "False"))) (.p (.str (if b then "True" else "False"))) S Q := by
  cases b with
  | true =>
    refine ⟨by decide +kernel, by decide +kernel, ?_⟩
    have e : PyData.eqv (.str ("True" : Str)) (.str ("True" : Str)) = true := by decide +kernel
    show Q (.p (.bl (!PyData.eqv (.str ("True" : Str)) (.str ("True" : Str))))) S
    rw [e]
    exact h
  | false =>
    refine ⟨by decide +kernel, by decide +kernel, ?_⟩
    have e : PyData.eqv (.str ("False" : Str)) (.str ("False" : Str)) = true := by decide +kernel
    show Q (.p (.bl (!PyData.eqv (.str ("False" : Str)) (.str ("False" : Str))))) S
    rw [e]
    exact h
abbrev N_law : List Str := [(Str.ofString "_law_script"), (Str.ofString "_law_feed_here"), (Str.ofString "_law_turn"), (Str.ofString "_law_number"), (Str.ofString "_law_thing")]
abbrev ps_law : List Str := [(Str.ofString "_law_script")]
abbrev w_law_1 : WS := wIfS (wOr (wTest (wBin (dEqv true) (wCB (b1 dReprB) (wCons (wCall sp_is_name [] (wCons (wVar 4) wNil)) wNil)) (wCB (b1 dReprB) (wCons (wCall sp__law_is_word [] (wCons (wVar 4) wNil)) wNil)))) (wTest (wBin (dEqv true) (wCB (b1 dReprB) (wCons (wCall sp_is_level [] (wCons (wVar 4) wNil)) wNil)) (wCB (b1 dReprB) (wCons (wCall sp__law_is_int [] (wCons (wVar 4) wNil)) wNil))))) (wRet (wC (.p (.bl false)))) wNext
abbrev w_law_2 : WS := wFor (wIt (wDisp .lst (wCons (wCall sp__law_word [] (wCons (wVar 1) wNil)) (wCons (wCall sp__law_word [] (wCons (wVar 1) wNil)) (wCons (wCall (sp__law_any 3) [] (wCons (wVar 1) (wCons (wC (.p (.int 2))) wNil))) (wCons (wVar 3) wNil)))))) (.nm 4) w_law_1
abbrev w_law_3 : WS := wSeq (wSet 3 (wBin dMul (wCall sp__law_draw [] (wCons (wVar 1) (wCons (wBin dPow (wC (.p (.int 10))) (wC (.p (.int 9)))) wNil))) (wCall sp__law_pick [] (wCons (wVar 1) (wCons (wDisp .lst (wCons (wC (.p (.int 1))) (wCons (wUn dNeg (wC (.p (.int 1)))) (wCons (wBin dPow (wC (.p (.int 10))) (wC (.p (.int 9)))) (wCons (wBin dPow (wC (.p (.int 10))) (wC (.p (.int 29)))) (wCons (wBin dSub (wC (.p (.int 0))) (wBin dPow (wC (.p (.int 10))) (wC (.p (.int 45))))) wNil)))))) wNil))))) w_law_2
abbrev w_law_4 : WS := wRet (wAndV (wBin (dIsN false) (wCallK sp_is_name (fun zs => zs) (wCons (wC (.p (.str (Str.ofString "abcdefgh")))) wNil)) (wC (.p (.bl true)))) (wBin (dIsN false) (wCallK sp_is_level (fun zs => zs) (wCons (wC (.p (.bl false))) wNil)) (wC (.p (.bl false)))))
abbrev w_law_5 : WS := wSeq (wFor (wRng (wCons (wBin dAdd (wC (.p (.int 8))) (wCB (b2 dMin2) (wCons (wC (.p (.int 20))) (wCons (wCB (b1 dLen) (wCons (wVar 0) wNil)) wNil)))) wNil)) (.nm 2) w_law_3) w_law_4
abbrev w_law_6 : WS := wSeq (wSet 1 (wCall sp__law_feed [] (wCons (wVar 0) wNil))) w_law_5
abbrev w_law : WS :=
  w_law_6

theorem pur_law : ∀ ds S Q E, sp_law ds S Q E → w_law (endsF S.length Q E) (startR N_law ds) S := by
  rintro ds S Q E ⟨ns, rfl, rfl, hl, h⟩
  have e : startR N_law [.p (.scr (ns.map RB.P.int))] = [some (.p (.scr (ns.map RB.P.int))), none, none, none, none] := rfl
  rw [e]
  have hs : sizeLine = 16777216 := rfl
  repeat (first | with_reducible refine st_var (by with_unfolding_all exact rfl) ?_ | with_reducible refine st_seq ?_ | with_reducible refine st_set ?_ | with_reducible refine st_bin ?_ | with_reducible refine st_c ?_ | with_reducible refine st_cb ?_ | with_reducible refine st_cons ?_ | with_reducible refine st_nil ?_ | with_reducible refine st_b1 ?_ | with_reducible refine st_b2 ?_ | with_reducible refine st_test ?_ | with_reducible refine st_ifS ?_ | with_reducible refine st_ret ?_ | with_reducible refine st_retN ?_ | with_reducible refine st_drop ?_ | with_reducible refine st_next ?_ | with_reducible refine st_un ?_ | with_reducible refine st_call ?_ | with_reducible refine st_callK ?_ | with_reducible refine st_and ?_ | with_reducible refine st_or ?_ | with_reducible refine st_not ?_ | with_reducible refine st_yes ?_ | with_reducible refine st_andV ?_ | with_reducible refine st_orV ?_ | with_reducible refine st_notV ?_ | with_reducible refine st_if ?_ | with_reducible refine st_chain ?_ | with_reducible refine st_disp ?_ | with_reducible refine st_newL ?_ | with_reducible refine st_sl ?_ | with_reducible refine st_noP ?_ | with_reducible refine st_part ?_ | with_reducible refine st_dput ?_ | with_reducible refine st_join ?_ | with_reducible refine st_lc ?_ | with_reducible refine st_rng ?_ | with_reducible refine st_it ?_ | with_reducible refine st_for ?_ | with_reducible refine st_isi2 ?_ | with_reducible refine st_dnew ?_ | with_reducible refine st_dict ?_ | with_reducible refine st_pcons ?_ | with_reducible refine st_pnil ?_ | with_reducible refine st_addI ?_ | with_reducible refine st_i0 ?_ | with_reducible refine st_toInt ?_ | with_reducible refine st_i1 ?_ | with_reducible refine st_neg ?_ | with_reducible refine st_lenL ?_ | with_reducible refine st_lenT ?_ | with_reducible refine st_lenC ?_ | with_reducible refine st_lstL ?_ | with_reducible refine st_lstT ?_ | with_reducible refine st_tupL ?_ | with_reducible refine st_tupT ?_ | with_reducible refine st_reprB ?_ | with_reducible refine st_inS ?_ | with_reducible refine st_getL ?_ | with_reducible refine st_getA ?_ | with_reducible refine st_getC ?_ | with_reducible refine st_putL ?_ | with_reducible refine st_putA ?_ | refine st_dok (by exact Nat.le_of_ble_eq_true rfl) ?_ | refine st_kvs (by decide +kernel) (by decide) ?_)
  refine ⟨ns, rfl, rfl, hl, fun f ok a0 => ?_⟩
  repeat (first | with_reducible refine st_var (by with_unfolding_all exact rfl) ?_ | with_reducible refine st_seq ?_ | with_reducible refine st_set ?_ | with_reducible refine st_bin ?_ | with_reducible refine st_c ?_ | with_reducible refine st_cb ?_ | with_reducible refine st_cons ?_ | with_reducible refine st_nil ?_ | with_reducible refine st_b1 ?_ | with_reducible refine st_b2 ?_ | with_reducible refine st_test ?_ | with_reducible refine st_ifS ?_ | with_reducible refine st_ret ?_ | with_reducible refine st_retN ?_ | with_reducible refine st_drop ?_ | with_reducible refine st_next ?_ | with_reducible refine st_un ?_ | with_reducible refine st_call ?_ | with_reducible refine st_callK ?_ | with_reducible refine st_and ?_ | with_reducible refine st_or ?_ | with_reducible refine st_not ?_ | with_reducible refine st_yes ?_ | with_reducible refine st_andV ?_ | with_reducible refine st_orV ?_ | with_reducible refine st_notV ?_ | with_reducible refine st_if ?_ | with_reducible refine st_chain ?_ | with_reducible refine st_disp ?_ | with_reducible refine st_newL ?_ | with_reducible refine st_sl ?_ | with_reducible refine st_noP ?_ | with_reducible refine st_part ?_ | with_reducible refine st_dput ?_ | with_reducible refine st_join ?_ | with_reducible refine st_lc ?_ | with_reducible refine st_rng ?_ | with_reducible refine st_it ?_ | with_reducible refine st_for ?_ | with_reducible refine st_isi2 ?_ | with_reducible refine st_dnew ?_ | with_reducible refine st_dict ?_ | with_reducible refine st_pcons ?_ | with_reducible refine st_pnil ?_ | with_reducible refine st_addI ?_ | with_reducible refine st_i0 ?_ | with_reducible refine st_toInt ?_ | with_reducible refine st_i1 ?_ | with_reducible refine st_neg ?_ | with_reducible refine st_lenL ?_ | with_reducible refine st_lenT ?_ | with_reducible refine st_lenC ?_ | with_reducible refine st_lstL ?_ | with_reducible refine st_lstT ?_ | with_reducible refine st_tupL ?_ | with_reducible refine st_tupT ?_ | with_reducible refine st_reprB ?_ | with_reducible refine st_inS ?_ | with_reducible refine st_getL ?_ | with_reducible refine st_getA ?_ | with_reducible refine st_getC ?_ | with_reducible refine st_putL ?_ | with_reducible refine st_putA ?_ | refine st_dok (by exact Nat.le_of_ble_eq_true rfl) ?_ | refine st_kvs (by decide +kernel) (by decide) ?_)
  have hl2 : (ns.map RB.P.int).length ≤ 63 := by
    rw [List.length_map]
    exact hl
  obtain ⟨many, em⟩ : ∃ many : Int, many = 8 + (if (((ns.map RB.P.int).length : Nat) : Int) < 20 then (((ns.map RB.P.int).length : Nat) : Int) else 20) := ⟨_, rfl⟩
  have hm : many ≤ 28 ∧ 0 ≤ many := by
    rw [em]
    split <;> omega
  rw [← em]
  refine ⟨by omega, by omega, ?_⟩
  have ln : (rngD 0 many.toNat).length = many.toNat := by simp [rngD]
  refine forRun_inv (fun j r S => ∃ g a b c, S = [feedC g] ∧ Fed (47 * j) f g ∧ r = [some (.p (.scr (ns.map RB.P.int))), some (.cell 0), a, b, c]) ?_ ⟨f, none, none, none, rfl, ⟨ok, by omega⟩, rfl⟩ ?_
  · rintro j d r S nx ct bk hd ⟨g, a, b, c, rfl, fg, rfl⟩ hnx - -
    have hj : j < many.toNat := by
      have := (List.getElem?_eq_some_iff.mp hd).1
      omega
    have ga := fg.at_
    have p9 : (10 : Int) ^ (9 : Int).toNat = 1000000000 := by decide
    have LM : LIM = 1099511627776 := rfl
    refine ⟨_, rfl, ?_⟩
    repeat (first | with_reducible refine st_var (by with_unfolding_all exact rfl) ?_ | with_reducible refine st_seq ?_ | with_reducible refine st_set ?_ | with_reducible refine st_bin ?_ | with_reducible refine st_c ?_ | with_reducible refine st_cb ?_ | with_reducible refine st_cons ?_ | with_reducible refine st_nil ?_ | with_reducible refine st_b1 ?_ | with_reducible refine st_b2 ?_ | with_reducible refine st_test ?_ | with_reducible refine st_ifS ?_ | with_reducible refine st_ret ?_ | with_reducible refine st_retN ?_ | with_reducible refine st_drop ?_ | with_reducible refine st_next ?_ | with_reducible refine st_un ?_ | with_reducible refine st_call ?_ | with_reducible refine st_callK ?_ | with_reducible refine st_and ?_ | with_reducible refine st_or ?_ | with_reducible refine st_not ?_ | with_reducible refine st_yes ?_ | with_reducible refine st_andV ?_ | with_reducible refine st_orV ?_ | with_reducible refine st_notV ?_ | with_reducible refine st_if ?_ | with_reducible refine st_chain ?_ | with_reducible refine st_disp ?_ | with_reducible refine st_newL ?_ | with_reducible refine st_sl ?_ | with_reducible refine st_noP ?_ | with_reducible refine st_part ?_ | with_reducible refine st_dput ?_ | with_reducible refine st_join ?_ | with_reducible refine st_lc ?_ | with_reducible refine st_rng ?_ | with_reducible refine st_it ?_ | with_reducible refine st_for ?_ | with_reducible refine st_isi2 ?_ | with_reducible refine st_dnew ?_ | with_reducible refine st_dict ?_ | with_reducible refine st_pcons ?_ | with_reducible refine st_pnil ?_ | with_reducible refine st_addI ?_ | with_reducible refine st_i0 ?_ | with_reducible refine st_toInt ?_ | with_reducible refine st_i1 ?_ | with_reducible refine st_neg ?_ | with_reducible refine st_lenL ?_ | with_reducible refine st_lenT ?_ | with_reducible refine st_lenC ?_ | with_reducible refine st_lstL ?_ | with_reducible refine st_lstT ?_ | with_reducible refine st_tupL ?_ | with_reducible refine st_tupT ?_ | with_reducible refine st_reprB ?_ | with_reducible refine st_inS ?_ | with_reducible refine st_getL ?_ | with_reducible refine st_getA ?_ | with_reducible refine st_getC ?_ | with_reducible refine st_putL ?_ | with_reducible refine st_putA ?_ | refine st_dok (by exact Nat.le_of_ble_eq_true rfl) ?_ | refine st_kvs (by decide +kernel) (by decide) ?_)
    refine st_i (by unfold CPow; decide) ?_
    repeat (first | with_reducible refine st_var (by with_unfolding_all exact rfl) ?_ | with_reducible refine st_seq ?_ | with_reducible refine st_set ?_ | with_reducible refine st_bin ?_ | with_reducible refine st_c ?_ | with_reducible refine st_cb ?_ | with_reducible refine st_cons ?_ | with_reducible refine st_nil ?_ | with_reducible refine st_b1 ?_ | with_reducible refine st_b2 ?_ | with_reducible refine st_test ?_ | with_reducible refine st_ifS ?_ | with_reducible refine st_ret ?_ | with_reducible refine st_retN ?_ | with_reducible refine st_drop ?_ | with_reducible refine st_next ?_ | with_reducible refine st_un ?_ | with_reducible refine st_call ?_ | with_reducible refine st_callK ?_ | with_reducible refine st_and ?_ | with_reducible refine st_or ?_ | with_reducible refine st_not ?_ | with_reducible refine st_yes ?_ | with_reducible refine st_andV ?_ | with_reducible refine st_orV ?_ | with_reducible refine st_notV ?_ | with_reducible refine st_if ?_ | with_reducible refine st_chain ?_ | with_reducible refine st_disp ?_ | with_reducible refine st_newL ?_ | with_reducible refine st_sl ?_ | with_reducible refine st_noP ?_ | with_reducible refine st_part ?_ | with_reducible refine st_dput ?_ | with_reducible refine st_join ?_ | with_reducible refine st_lc ?_ | with_reducible refine st_rng ?_ | with_reducible refine st_it ?_ | with_reducible refine st_for ?_ | with_reducible refine st_isi2 ?_ | with_reducible refine st_dnew ?_ | with_reducible refine st_dict ?_ | with_reducible refine st_pcons ?_ | with_reducible refine st_pnil ?_ | with_reducible refine st_addI ?_ | with_reducible refine st_i0 ?_ | with_reducible refine st_toInt ?_ | with_reducible refine st_i1 ?_ | with_reducible refine st_neg ?_ | with_reducible refine st_lenL ?_ | with_reducible refine st_lenT ?_ | with_reducible refine st_lenC ?_ | with_reducible refine st_lstL ?_ | with_reducible refine st_lstT ?_ | with_reducible refine st_tupL ?_ | with_reducible refine st_tupT ?_ | with_reducible refine st_reprB ?_ | with_reducible refine st_inS ?_ | with_reducible refine st_getL ?_ | with_reducible refine st_getA ?_ | with_reducible refine st_getC ?_ | with_reducible refine st_putL ?_ | with_reducible refine st_putA ?_ | refine st_dok (by exact Nat.le_of_ble_eq_true rfl) ?_ | refine st_kvs (by decide +kernel) (by decide) ?_)
    refine ⟨_, g, [], rfl, rfl, fg.ok, by omega, by decide, by decide, fun x g1 x0 x1 f1 => ?_⟩
    have f1' := fg.trans f1 (Int.le_refl _)
    have g1a := f1'.at_
    repeat (first | with_reducible refine st_var (by with_unfolding_all exact rfl) ?_ | with_reducible refine st_seq ?_ | with_reducible refine st_set ?_ | with_reducible refine st_bin ?_ | with_reducible refine st_c ?_ | with_reducible refine st_cb ?_ | with_reducible refine st_cons ?_ | with_reducible refine st_nil ?_ | with_reducible refine st_b1 ?_ | with_reducible refine st_b2 ?_ | with_reducible refine st_test ?_ | with_reducible refine st_ifS ?_ | with_reducible refine st_ret ?_ | with_reducible refine st_retN ?_ | with_reducible refine st_drop ?_ | with_reducible refine st_next ?_ | with_reducible refine st_un ?_ | with_reducible refine st_call ?_ | with_reducible refine st_callK ?_ | with_reducible refine st_and ?_ | with_reducible refine st_or ?_ | with_reducible refine st_not ?_ | with_reducible refine st_yes ?_ | with_reducible refine st_andV ?_ | with_reducible refine st_orV ?_ | with_reducible refine st_notV ?_ | with_reducible refine st_if ?_ | with_reducible refine st_chain ?_ | with_reducible refine st_disp ?_ | with_reducible refine st_newL ?_ | with_reducible refine st_sl ?_ | with_reducible refine st_noP ?_ | with_reducible refine st_part ?_ | with_reducible refine st_dput ?_ | with_reducible refine st_join ?_ | with_reducible refine st_lc ?_ | with_reducible refine st_rng ?_ | with_reducible refine st_it ?_ | with_reducible refine st_for ?_ | with_reducible refine st_isi2 ?_ | with_reducible refine st_dnew ?_ | with_reducible refine st_dict ?_ | with_reducible refine st_pcons ?_ | with_reducible refine st_pnil ?_ | with_reducible refine st_addI ?_ | with_reducible refine st_i0 ?_ | with_reducible refine st_toInt ?_ | with_reducible refine st_i1 ?_ | with_reducible refine st_neg ?_ | with_reducible refine st_lenL ?_ | with_reducible refine st_lenT ?_ | with_reducible refine st_lenC ?_ | with_reducible refine st_lstL ?_ | with_reducible refine st_lstT ?_ | with_reducible refine st_tupL ?_ | with_reducible refine st_tupT ?_ | with_reducible refine st_reprB ?_ | with_reducible refine st_inS ?_ | with_reducible refine st_getL ?_ | with_reducible refine st_getA ?_ | with_reducible refine st_getC ?_ | with_reducible refine st_putL ?_ | with_reducible refine st_putA ?_ | refine st_dok (by exact Nat.le_of_ble_eq_true rfl) ?_ | refine st_kvs (by decide +kernel) (by decide) ?_)
    refine st_i (by unfold CPow; decide) ?_
    repeat (first | with_reducible refine st_var (by with_unfolding_all exact rfl) ?_ | with_reducible refine st_seq ?_ | with_reducible refine st_set ?_ | with_reducible refine st_bin ?_ | with_reducible refine st_c ?_ | with_reducible refine st_cb ?_ | with_reducible refine st_cons ?_ | with_reducible refine st_nil ?_ | with_reducible refine st_b1 ?_ | with_reducible refine st_b2 ?_ | with_reducible refine st_test ?_ | with_reducible refine st_ifS ?_ | with_reducible refine st_ret ?_ | with_reducible refine st_retN ?_ | with_reducible refine st_drop ?_ | with_reducible refine st_next ?_ | with_reducible refine st_un ?_ | with_reducible refine st_call ?_ | with_reducible refine st_callK ?_ | with_reducible refine st_and ?_ | with_reducible refine st_or ?_ | with_reducible refine st_not ?_ | with_reducible refine st_yes ?_ | with_reducible refine st_andV ?_ | with_reducible refine st_orV ?_ | with_reducible refine st_notV ?_ | with_reducible refine st_if ?_ | with_reducible refine st_chain ?_ | with_reducible refine st_disp ?_ | with_reducible refine st_newL ?_ | with_reducible refine st_sl ?_ | with_reducible refine st_noP ?_ | with_reducible refine st_part ?_ | with_reducible refine st_dput ?_ | with_reducible refine st_join ?_ | with_reducible refine st_lc ?_ | with_reducible refine st_rng ?_ | with_reducible refine st_it ?_ | with_reducible refine st_for ?_ | with_reducible refine st_isi2 ?_ | with_reducible refine st_dnew ?_ | with_reducible refine st_dict ?_ | with_reducible refine st_pcons ?_ | with_reducible refine st_pnil ?_ | with_reducible refine st_addI ?_ | with_reducible refine st_i0 ?_ | with_reducible refine st_toInt ?_ | with_reducible refine st_i1 ?_ | with_reducible refine st_neg ?_ | with_reducible refine st_lenL ?_ | with_reducible refine st_lenT ?_ | with_reducible refine st_lenC ?_ | with_reducible refine st_lstL ?_ | with_reducible refine st_lstT ?_ | with_reducible refine st_tupL ?_ | with_reducible refine st_tupT ?_ | with_reducible refine st_reprB ?_ | with_reducible refine st_inS ?_ | with_reducible refine st_getL ?_ | with_reducible refine st_getA ?_ | with_reducible refine st_getC ?_ | with_reducible refine st_putL ?_ | with_reducible refine st_putA ?_ | refine st_dok (by exact Nat.le_of_ble_eq_true rfl) ?_ | refine st_kvs (by decide +kernel) (by decide) ?_)
    refine st_i (by unfold CPow; decide) ?_
    repeat (first | with_reducible refine st_var (by with_unfolding_all exact rfl) ?_ | with_reducible refine st_seq ?_ | with_reducible refine st_set ?_ | with_reducible refine st_bin ?_ | with_reducible refine st_c ?_ | with_reducible refine st_cb ?_ | with_reducible refine st_cons ?_ | with_reducible refine st_nil ?_ | with_reducible refine st_b1 ?_ | with_reducible refine st_b2 ?_ | with_reducible refine st_test ?_ | with_reducible refine st_ifS ?_ | with_reducible refine st_ret ?_ | with_reducible refine st_retN ?_ | with_reducible refine st_drop ?_ | with_reducible refine st_next ?_ | with_reducible refine st_un ?_ | with_reducible refine st_call ?_ | with_reducible refine st_callK ?_ | with_reducible refine st_and ?_ | with_reducible refine st_or ?_ | with_reducible refine st_not ?_ | with_reducible refine st_yes ?_ | with_reducible refine st_andV ?_ | with_reducible refine st_orV ?_ | with_reducible refine st_notV ?_ | with_reducible refine st_if ?_ | with_reducible refine st_chain ?_ | with_reducible refine st_disp ?_ | with_reducible refine st_newL ?_ | with_reducible refine st_sl ?_ | with_reducible refine st_noP ?_ | with_reducible refine st_part ?_ | with_reducible refine st_dput ?_ | with_reducible refine st_join ?_ | with_reducible refine st_lc ?_ | with_reducible refine st_rng ?_ | with_reducible refine st_it ?_ | with_reducible refine st_for ?_ | with_reducible refine st_isi2 ?_ | with_reducible refine st_dnew ?_ | with_reducible refine st_dict ?_ | with_reducible refine st_pcons ?_ | with_reducible refine st_pnil ?_ | with_reducible refine st_addI ?_ | with_reducible refine st_i0 ?_ | with_reducible refine st_toInt ?_ | with_reducible refine st_i1 ?_ | with_reducible refine st_neg ?_ | with_reducible refine st_lenL ?_ | with_reducible refine st_lenT ?_ | with_reducible refine st_lenC ?_ | with_reducible refine st_lstL ?_ | with_reducible refine st_lstT ?_ | with_reducible refine st_tupL ?_ | with_reducible refine st_tupT ?_ | with_reducible refine st_reprB ?_ | with_reducible refine st_inS ?_ | with_reducible refine st_getL ?_ | with_reducible refine st_getA ?_ | with_reducible refine st_getC ?_ | with_reducible refine st_putL ?_ | with_reducible refine st_putA ?_ | refine st_dok (by exact Nat.le_of_ble_eq_true rfl) ?_ | refine st_kvs (by decide +kernel) (by decide) ?_)
    refine st_i (by unfold CPow; decide) ?_
    repeat (first | with_reducible refine st_var (by with_unfolding_all exact rfl) ?_ | with_reducible refine st_seq ?_ | with_reducible refine st_set ?_ | with_reducible refine st_bin ?_ | with_reducible refine st_c ?_ | with_reducible refine st_cb ?_ | with_reducible refine st_cons ?_ | with_reducible refine st_nil ?_ | with_reducible refine st_b1 ?_ | with_reducible refine st_b2 ?_ | with_reducible refine st_test ?_ | with_reducible refine st_ifS ?_ | with_reducible refine st_ret ?_ | with_reducible refine st_retN ?_ | with_reducible refine st_drop ?_ | with_reducible refine st_next ?_ | with_reducible refine st_un ?_ | with_reducible refine st_call ?_ | with_reducible refine st_callK ?_ | with_reducible refine st_and ?_ | with_reducible refine st_or ?_ | with_reducible refine st_not ?_ | with_reducible refine st_yes ?_ | with_reducible refine st_andV ?_ | with_reducible refine st_orV ?_ | with_reducible refine st_notV ?_ | with_reducible refine st_if ?_ | with_reducible refine st_chain ?_ | with_reducible refine st_disp ?_ | with_reducible refine st_newL ?_ | with_reducible refine st_sl ?_ | with_reducible refine st_noP ?_ | with_reducible refine st_part ?_ | with_reducible refine st_dput ?_ | with_reducible refine st_join ?_ | with_reducible refine st_lc ?_ | with_reducible refine st_rng ?_ | with_reducible refine st_it ?_ | with_reducible refine st_for ?_ | with_reducible refine st_isi2 ?_ | with_reducible refine st_dnew ?_ | with_reducible refine st_dict ?_ | with_reducible refine st_pcons ?_ | with_reducible refine st_pnil ?_ | with_reducible refine st_addI ?_ | with_reducible refine st_i0 ?_ | with_reducible refine st_toInt ?_ | with_reducible refine st_i1 ?_ | with_reducible refine st_neg ?_ | with_reducible refine st_lenL ?_ | with_reducible refine st_lenT ?_ | with_reducible refine st_lenC ?_ | with_reducible refine st_lstL ?_ | with_reducible refine st_lstT ?_ | with_reducible refine st_tupL ?_ | with_reducible refine st_tupT ?_ | with_reducible refine st_reprB ?_ | with_reducible refine st_inS ?_ | with_reducible refine st_getL ?_ | with_reducible refine st_getA ?_ | with_reducible refine st_getC ?_ | with_reducible refine st_putL ?_ | with_reducible refine st_putA ?_ | refine st_dok (by exact Nat.le_of_ble_eq_true rfl) ?_ | refine st_kvs (by decide +kernel) (by decide) ?_)
    refine ⟨_, g1, [], rfl, rfl, f1'.ok, by omega, (fun q => by cases q), by decide, fun y g2 my f2 => ?_⟩
    have f2' := f1'.trans f2 (Int.le_refl _)
    have g2a := f2'.at_
    have hy : ∃ y' : Int, y = .int y' := by
      simp [optsOf] at my
      rcases my with rfl | rfl | rfl | rfl | rfl <;> exact ⟨_, rfl⟩
    obtain ⟨y', rfl⟩ := hy
    refine st_mul (.inl (.inl ⟨by omega, by omega⟩)) ?_
    repeat (first | with_reducible refine st_var (by with_unfolding_all exact rfl) ?_ | with_reducible refine st_seq ?_ | with_reducible refine st_set ?_ | with_reducible refine st_bin ?_ | with_reducible refine st_c ?_ | with_reducible refine st_cb ?_ | with_reducible refine st_cons ?_ | with_reducible refine st_nil ?_ | with_reducible refine st_b1 ?_ | with_reducible refine st_b2 ?_ | with_reducible refine st_test ?_ | with_reducible refine st_ifS ?_ | with_reducible refine st_ret ?_ | with_reducible refine st_retN ?_ | with_reducible refine st_drop ?_ | with_reducible refine st_next ?_ | with_reducible refine st_un ?_ | with_reducible refine st_call ?_ | with_reducible refine st_callK ?_ | with_reducible refine st_and ?_ | with_reducible refine st_or ?_ | with_reducible refine st_not ?_ | with_reducible refine st_yes ?_ | with_reducible refine st_andV ?_ | with_reducible refine st_orV ?_ | with_reducible refine st_notV ?_ | with_reducible refine st_if ?_ | with_reducible refine st_chain ?_ | with_reducible refine st_disp ?_ | with_reducible refine st_newL ?_ | with_reducible refine st_sl ?_ | with_reducible refine st_noP ?_ | with_reducible refine st_part ?_ | with_reducible refine st_dput ?_ | with_reducible refine st_join ?_ | with_reducible refine st_lc ?_ | with_reducible refine st_rng ?_ | with_reducible refine st_it ?_ | with_reducible refine st_for ?_ | with_reducible refine st_isi2 ?_ | with_reducible refine st_dnew ?_ | with_reducible refine st_dict ?_ | with_reducible refine st_pcons ?_ | with_reducible refine st_pnil ?_ | with_reducible refine st_addI ?_ | with_reducible refine st_i0 ?_ | with_reducible refine st_toInt ?_ | with_reducible refine st_i1 ?_ | with_reducible refine st_neg ?_ | with_reducible refine st_lenL ?_ | with_reducible refine st_lenT ?_ | with_reducible refine st_lenC ?_ | with_reducible refine st_lstL ?_ | with_reducible refine st_lstT ?_ | with_reducible refine st_tupL ?_ | with_reducible refine st_tupT ?_ | with_reducible refine st_reprB ?_ | with_reducible refine st_inS ?_ | with_reducible refine st_getL ?_ | with_reducible refine st_getA ?_ | with_reducible refine st_getC ?_ | with_reducible refine st_putL ?_ | with_reducible refine st_putA ?_ | refine st_dok (by exact Nat.le_of_ble_eq_true rfl) ?_ | refine st_kvs (by decide +kernel) (by decide) ?_)
    refine ⟨g2, [], rfl, rfl, f2'.ok, by omega, fun z1 g3 zl1 za1 f3 => ?_⟩
    have f3' := f2'.trans f3 (Int.le_refl _)
    have g3a := f3'.at_
    repeat (first | with_reducible refine st_var (by with_unfolding_all exact rfl) ?_ | with_reducible refine st_seq ?_ | with_reducible refine st_set ?_ | with_reducible refine st_bin ?_ | with_reducible refine st_c ?_ | with_reducible refine st_cb ?_ | with_reducible refine st_cons ?_ | with_reducible refine st_nil ?_ | with_reducible refine st_b1 ?_ | with_reducible refine st_b2 ?_ | with_reducible refine st_test ?_ | with_reducible refine st_ifS ?_ | with_reducible refine st_ret ?_ | with_reducible refine st_retN ?_ | with_reducible refine st_drop ?_ | with_reducible refine st_next ?_ | with_reducible refine st_un ?_ | with_reducible refine st_call ?_ | with_reducible refine st_callK ?_ | with_reducible refine st_and ?_ | with_reducible refine st_or ?_ | with_reducible refine st_not ?_ | with_reducible refine st_yes ?_ | with_reducible refine st_andV ?_ | with_reducible refine st_orV ?_ | with_reducible refine st_notV ?_ | with_reducible refine st_if ?_ | with_reducible refine st_chain ?_ | with_reducible refine st_disp ?_ | with_reducible refine st_newL ?_ | with_reducible refine st_sl ?_ | with_reducible refine st_noP ?_ | with_reducible refine st_part ?_ | with_reducible refine st_dput ?_ | with_reducible refine st_join ?_ | with_reducible refine st_lc ?_ | with_reducible refine st_rng ?_ | with_reducible refine st_it ?_ | with_reducible refine st_for ?_ | with_reducible refine st_isi2 ?_ | with_reducible refine st_dnew ?_ | with_reducible refine st_dict ?_ | with_reducible refine st_pcons ?_ | with_reducible refine st_pnil ?_ | with_reducible refine st_addI ?_ | with_reducible refine st_i0 ?_ | with_reducible refine st_toInt ?_ | with_reducible refine st_i1 ?_ | with_reducible refine st_neg ?_ | with_reducible refine st_lenL ?_ | with_reducible refine st_lenT ?_ | with_reducible refine st_lenC ?_ | with_reducible refine st_lstL ?_ | with_reducible refine st_lstT ?_ | with_reducible refine st_tupL ?_ | with_reducible refine st_tupT ?_ | with_reducible refine st_reprB ?_ | with_reducible refine st_inS ?_ | with_reducible refine st_getL ?_ | with_reducible refine st_getA ?_ | with_reducible refine st_getC ?_ | with_reducible refine st_putL ?_ | with_reducible refine st_putA ?_ | refine st_dok (by exact Nat.le_of_ble_eq_true rfl) ?_ | refine st_kvs (by decide +kernel) (by decide) ?_)
    refine ⟨g3, [], rfl, rfl, f3'.ok, by omega, fun z2 g4 zl2 za2 f4 => ?_⟩
    have f4' := f3'.trans f4 (Int.le_refl _)
    have g4a := f4'.at_
    repeat (first | with_reducible refine st_var (by with_unfolding_all exact rfl) ?_ | with_reducible refine st_seq ?_ | with_reducible refine st_set ?_ | with_reducible refine st_bin ?_ | with_reducible refine st_c ?_ | with_reducible refine st_cb ?_ | with_reducible refine st_cons ?_ | with_reducible refine st_nil ?_ | with_reducible refine st_b1 ?_ | with_reducible refine st_b2 ?_ | with_reducible refine st_test ?_ | with_reducible refine st_ifS ?_ | with_reducible refine st_ret ?_ | with_reducible refine st_retN ?_ | with_reducible refine st_drop ?_ | with_reducible refine st_next ?_ | with_reducible refine st_un ?_ | with_reducible refine st_call ?_ | with_reducible refine st_callK ?_ | with_reducible refine st_and ?_ | with_reducible refine st_or ?_ | with_reducible refine st_not ?_ | with_reducible refine st_yes ?_ | with_reducible refine st_andV ?_ | with_reducible refine st_orV ?_ | with_reducible refine st_notV ?_ | with_reducible refine st_if ?_ | with_reducible refine st_chain ?_ | with_reducible refine st_disp ?_ | with_reducible refine st_newL ?_ | with_reducible refine st_sl ?_ | with_reducible refine st_noP ?_ | with_reducible refine st_part ?_ | with_reducible refine st_dput ?_ | with_reducible refine st_join ?_ | with_reducible refine st_lc ?_ | with_reducible refine st_rng ?_ | with_reducible refine st_it ?_ | with_reducible refine st_for ?_ | with_reducible refine st_isi2 ?_ | with_reducible refine st_dnew ?_ | with_reducible refine st_dict ?_ | with_reducible refine st_pcons ?_ | with_reducible refine st_pnil ?_ | with_reducible refine st_addI ?_ | with_reducible refine st_i0 ?_ | with_reducible refine st_toInt ?_ | with_reducible refine st_i1 ?_ | with_reducible refine st_neg ?_ | with_reducible refine st_lenL ?_ | with_reducible refine st_lenT ?_ | with_reducible refine st_lenC ?_ | with_reducible refine st_lstL ?_ | with_reducible refine st_lstT ?_ | with_reducible refine st_tupL ?_ | with_reducible refine st_tupT ?_ | with_reducible refine st_reprB ?_ | with_reducible refine st_inS ?_ | with_reducible refine st_getL ?_ | with_reducible refine st_getA ?_ | with_reducible refine st_getC ?_ | with_reducible refine st_putL ?_ | with_reducible refine st_putA ?_ | refine st_dok (by exact Nat.le_of_ble_eq_true rfl) ?_ | refine st_kvs (by decide +kernel) (by decide) ?_)
    have c2 : cAny 2 = 17 := by decide
    refine ⟨2, g4, [], rfl, rfl, by decide, f4'.ok, by omega, fun v g5 hv f5 => ?_⟩
    have f5' : Fed (47 * ((j + 1 : Nat) : Int)) f g5 := f4'.trans f5 (by omega)
    repeat (first | with_reducible refine st_var (by with_unfolding_all exact rfl) ?_ | with_reducible refine st_seq ?_ | with_reducible refine st_set ?_ | with_reducible refine st_bin ?_ | with_reducible refine st_c ?_ | with_reducible refine st_cb ?_ | with_reducible refine st_cons ?_ | with_reducible refine st_nil ?_ | with_reducible refine st_b1 ?_ | with_reducible refine st_b2 ?_ | with_reducible refine st_test ?_ | with_reducible refine st_ifS ?_ | with_reducible refine st_ret ?_ | with_reducible refine st_retN ?_ | with_reducible refine st_drop ?_ | with_reducible refine st_next ?_ | with_reducible refine st_un ?_ | with_reducible refine st_call ?_ | with_reducible refine st_callK ?_ | with_reducible refine st_and ?_ | with_reducible refine st_or ?_ | with_reducible refine st_not ?_ | with_reducible refine st_yes ?_ | with_reducible refine st_andV ?_ | with_reducible refine st_orV ?_ | with_reducible refine st_notV ?_ | with_reducible refine st_if ?_ | with_reducible refine st_chain ?_ | with_reducible refine st_disp ?_ | with_reducible refine st_newL ?_ | with_reducible refine st_sl ?_ | with_reducible refine st_noP ?_ | with_reducible refine st_part ?_ | with_reducible refine st_dput ?_ | with_reducible refine st_join ?_ | with_reducible refine st_lc ?_ | with_reducible refine st_rng ?_ | with_reducible refine st_it ?_ | with_reducible refine st_for ?_ | with_reducible refine st_isi2 ?_ | with_reducible refine st_dnew ?_ | with_reducible refine st_dict ?_ | with_reducible refine st_pcons ?_ | with_reducible refine st_pnil ?_ | with_reducible refine st_addI ?_ | with_reducible refine st_i0 ?_ | with_reducible refine st_toInt ?_ | with_reducible refine st_i1 ?_ | with_reducible refine st_neg ?_ | with_reducible refine st_lenL ?_ | with_reducible refine st_lenT ?_ | with_reducible refine st_lenC ?_ | with_reducible refine st_lstL ?_ | with_reducible refine st_lstT ?_ | with_reducible refine st_tupL ?_ | with_reducible refine st_tupT ?_ | with_reducible refine st_reprB ?_ | with_reducible refine st_inS ?_ | with_reducible refine st_getL ?_ | with_reducible refine st_getA ?_ | with_reducible refine st_getC ?_ | with_reducible refine st_putL ?_ | with_reducible refine st_putA ?_ | refine st_dok (by exact Nat.le_of_ble_eq_true rfl) ?_ | refine st_kvs (by decide +kernel) (by decide) ?_)
    have tm : ∀ p ∈ [RB.P.str z1, .str z2, v, .int (x * y')], tame p := by
      intro p mp
      simp only [List.mem_cons, List.not_mem_nil, or_false] at mp
      rcases mp with rfl | rfl | rfl | rfl
      · exact ⟨by omega, za1⟩
      · exact ⟨by omega, za2⟩
      · exact tame_any hv
      · trivial
    refine forRun_inv (fun j r S => ∃ a b c, S = [feedC g5] ∧ r = [some (.p (.scr (ns.map RB.P.int))), some (.cell 0), a, b, c]) ?_ ⟨_, _, _, rfl, rfl⟩ ?_
    · rintro k d r S nx' ct bk hd ⟨a, b, c, rfl, rfl⟩ hnx' - -
      have hm : d ∈ [RB.P.str z1, .str z2, v, .int (x * y')].map RB.D.p := List.mem_of_getElem? hd
      obtain ⟨p, mp, rfl⟩ := List.mem_map.mp hm
      have tp := tm p mp
      refine ⟨_, rfl, ?_⟩
      repeat (first | with_reducible refine st_var (by with_unfolding_all exact rfl) ?_ | with_reducible refine st_seq ?_ | with_reducible refine st_set ?_ | with_reducible refine st_bin ?_ | with_reducible refine st_c ?_ | with_reducible refine st_cb ?_ | with_reducible refine st_cons ?_ | with_reducible refine st_nil ?_ | with_reducible refine st_b1 ?_ | with_reducible refine st_b2 ?_ | with_reducible refine st_test ?_ | with_reducible refine st_ifS ?_ | with_reducible refine st_ret ?_ | with_reducible refine st_retN ?_ | with_reducible refine st_drop ?_ | with_reducible refine st_next ?_ | with_reducible refine st_un ?_ | with_reducible refine st_call ?_ | with_reducible refine st_callK ?_ | with_reducible refine st_and ?_ | with_reducible refine st_or ?_ | with_reducible refine st_not ?_ | with_reducible refine st_yes ?_ | with_reducible refine st_andV ?_ | with_reducible refine st_orV ?_ | with_reducible refine st_notV ?_ | with_reducible refine st_if ?_ | with_reducible refine st_chain ?_ | with_reducible refine st_disp ?_ | with_reducible refine st_newL ?_ | with_reducible refine st_sl ?_ | with_reducible refine st_noP ?_ | with_reducible refine st_part ?_ | with_reducible refine st_dput ?_ | with_reducible refine st_join ?_ | with_reducible refine st_lc ?_ | with_reducible refine st_rng ?_ | with_reducible refine st_it ?_ | with_reducible refine st_for ?_ | with_reducible refine st_isi2 ?_ | with_reducible refine st_dnew ?_ | with_reducible refine st_dict ?_ | with_reducible refine st_pcons ?_ | with_reducible refine st_pnil ?_ | with_reducible refine st_addI ?_ | with_reducible refine st_i0 ?_ | with_reducible refine st_toInt ?_ | with_reducible refine st_i1 ?_ | with_reducible refine st_neg ?_ | with_reducible refine st_lenL ?_ | with_reducible refine st_lenT ?_ | with_reducible refine st_lenC ?_ | with_reducible refine st_lstL ?_ | with_reducible refine st_lstT ?_ | with_reducible refine st_tupL ?_ | with_reducible refine st_tupT ?_ | with_reducible refine st_reprB ?_ | with_reducible refine st_inS ?_ | with_reducible refine st_getL ?_ | with_reducible refine st_getA ?_ | with_reducible refine st_getC ?_ | with_reducible refine st_putL ?_ | with_reducible refine st_putA ?_ | refine st_dok (by exact Nat.le_of_ble_eq_true rfl) ?_ | refine st_kvs (by decide +kernel) (by decide) ?_)
      refine ⟨p, rfl, tp, ?_⟩
      repeat (first | with_reducible refine st_var (by with_unfolding_all exact rfl) ?_ | with_reducible refine st_seq ?_ | with_reducible refine st_set ?_ | with_reducible refine st_bin ?_ | with_reducible refine st_c ?_ | with_reducible refine st_cb ?_ | with_reducible refine st_cons ?_ | with_reducible refine st_nil ?_ | with_reducible refine st_b1 ?_ | with_reducible refine st_b2 ?_ | with_reducible refine st_test ?_ | with_reducible refine st_ifS ?_ | with_reducible refine st_ret ?_ | with_reducible refine st_retN ?_ | with_reducible refine st_drop ?_ | with_reducible refine st_next ?_ | with_reducible refine st_un ?_ | with_reducible refine st_call ?_ | with_reducible refine st_callK ?_ | with_reducible refine st_and ?_ | with_reducible refine st_or ?_ | with_reducible refine st_not ?_ | with_reducible refine st_yes ?_ | with_reducible refine st_andV ?_ | with_reducible refine st_orV ?_ | with_reducible refine st_notV ?_ | with_reducible refine st_if ?_ | with_reducible refine st_chain ?_ | with_reducible refine st_disp ?_ | with_reducible refine st_newL ?_ | with_reducible refine st_sl ?_ | with_reducible refine st_noP ?_ | with_reducible refine st_part ?_ | with_reducible refine st_dput ?_ | with_reducible refine st_join ?_ | with_reducible refine st_lc ?_ | with_reducible refine st_rng ?_ | with_reducible refine st_it ?_ | with_reducible refine st_for ?_ | with_reducible refine st_isi2 ?_ | with_reducible refine st_dnew ?_ | with_reducible refine st_dict ?_ | with_reducible refine st_pcons ?_ | with_reducible refine st_pnil ?_ | with_reducible refine st_addI ?_ | with_reducible refine st_i0 ?_ | with_reducible refine st_toInt ?_ | with_reducible refine st_i1 ?_ | with_reducible refine st_neg ?_ | with_reducible refine st_lenL ?_ | with_reducible refine st_lenT ?_ | with_reducible refine st_lenC ?_ | with_reducible refine st_lstL ?_ | with_reducible refine st_lstT ?_ | with_reducible refine st_tupL ?_ | with_reducible refine st_tupT ?_ | with_reducible refine st_reprB ?_ | with_reducible refine st_inS ?_ | with_reducible refine st_getL ?_ | with_reducible refine st_getA ?_ | with_reducible refine st_getC ?_ | with_reducible refine st_putL ?_ | with_reducible refine st_putA ?_ | refine st_dok (by exact Nat.le_of_ble_eq_true rfl) ?_ | refine st_kvs (by decide +kernel) (by decide) ?_)
      refine ⟨p, rfl, tp, ?_⟩
      repeat (first | with_reducible refine st_var (by with_unfolding_all exact rfl) ?_ | with_reducible refine st_seq ?_ | with_reducible refine st_set ?_ | with_reducible refine st_bin ?_ | with_reducible refine st_c ?_ | with_reducible refine st_cb ?_ | with_reducible refine st_cons ?_ | with_reducible refine st_nil ?_ | with_reducible refine st_b1 ?_ | with_reducible refine st_b2 ?_ | with_reducible refine st_test ?_ | with_reducible refine st_ifS ?_ | with_reducible refine st_ret ?_ | with_reducible refine st_retN ?_ | with_reducible refine st_drop ?_ | with_reducible refine st_next ?_ | with_reducible refine st_un ?_ | with_reducible refine st_call ?_ | with_reducible refine st_callK ?_ | with_reducible refine st_and ?_ | with_reducible refine st_or ?_ | with_reducible refine st_not ?_ | with_reducible refine st_yes ?_ | with_reducible refine st_andV ?_ | with_reducible refine st_orV ?_ | with_reducible refine st_notV ?_ | with_reducible refine st_if ?_ | with_reducible refine st_chain ?_ | with_reducible refine st_disp ?_ | with_reducible refine st_newL ?_ | with_reducible refine st_sl ?_ | with_reducible refine st_noP ?_ | with_reducible refine st_part ?_ | with_reducible refine st_dput ?_ | with_reducible refine st_join ?_ | with_reducible refine st_lc ?_ | with_reducible refine st_rng ?_ | with_reducible refine st_it ?_ | with_reducible refine st_for ?_ | with_reducible refine st_isi2 ?_ | with_reducible refine st_dnew ?_ | with_reducible refine st_dict ?_ | with_reducible refine st_pcons ?_ | with_reducible refine st_pnil ?_ | with_reducible refine st_addI ?_ | with_reducible refine st_i0 ?_ | with_reducible refine st_toInt ?_ | with_reducible refine st_i1 ?_ | with_reducible refine st_neg ?_ | with_reducible refine st_lenL ?_ | with_reducible refine st_lenT ?_ | with_reducible refine st_lenC ?_ | with_reducible refine st_lstL ?_ | with_reducible refine st_lstT ?_ | with_reducible refine st_tupL ?_ | with_reducible refine st_tupT ?_ | with_reducible refine st_reprB ?_ | with_reducible refine st_inS ?_ | with_reducible refine st_getL ?_ | with_reducible refine st_getA ?_ | with_reducible refine st_getC ?_ | with_reducible refine st_putL ?_ | with_reducible refine st_putA ?_ | refine st_dok (by exact Nat.le_of_ble_eq_true rfl) ?_ | refine st_kvs (by decide +kernel) (by decide) ?_)
      refine reprB_eq _ _ _ ?_
      repeat (first | with_reducible refine st_var (by with_unfolding_all exact rfl) ?_ | with_reducible refine st_seq ?_ | with_reducible refine st_set ?_ | with_reducible refine st_bin ?_ | with_reducible refine st_c ?_ | with_reducible refine st_cb ?_ | with_reducible refine st_cons ?_ | with_reducible refine st_nil ?_ | with_reducible refine st_b1 ?_ | with_reducible refine st_b2 ?_ | with_reducible refine st_test ?_ | with_reducible refine st_ifS ?_ | with_reducible refine st_ret ?_ | with_reducible refine st_retN ?_ | with_reducible refine st_drop ?_ | with_reducible refine st_next ?_ | with_reducible refine st_un ?_ | with_reducible refine st_call ?_ | with_reducible refine st_callK ?_ | with_reducible refine st_and ?_ | with_reducible refine st_or ?_ | with_reducible refine st_not ?_ | with_reducible refine st_yes ?_ | with_reducible refine st_andV ?_ | with_reducible refine st_orV ?_ | with_reducible refine st_notV ?_ | with_reducible refine st_if ?_ | with_reducible refine st_chain ?_ | with_reducible refine st_disp ?_ | with_reducible refine st_newL ?_ | with_reducible refine st_sl ?_ | with_reducible refine st_noP ?_ | with_reducible refine st_part ?_ | with_reducible refine st_dput ?_ | with_reducible refine st_join ?_ | with_reducible refine st_lc ?_ | with_reducible refine st_rng ?_ | with_reducible refine st_it ?_ | with_reducible refine st_for ?_ | with_reducible refine st_isi2 ?_ | with_reducible refine st_dnew ?_ | with_reducible refine st_dict ?_ | with_reducible refine st_pcons ?_ | with_reducible refine st_pnil ?_ | with_reducible refine st_addI ?_ | with_reducible refine st_i0 ?_ | with_reducible refine st_toInt ?_ | with_reducible refine st_i1 ?_ | with_reducible refine st_neg ?_ | with_reducible refine st_lenL ?_ | with_reducible refine st_lenT ?_ | with_reducible refine st_lenC ?_ | with_reducible refine st_lstL ?_ | with_reducible refine st_lstT ?_ | with_reducible refine st_tupL ?_ | with_reducible refine st_tupT ?_ | with_reducible refine st_reprB ?_ | with_reducible refine st_inS ?_ | with_reducible refine st_getL ?_ | with_reducible refine st_getA ?_ | with_reducible refine st_getC ?_ | with_reducible refine st_putL ?_ | with_reducible refine st_putA ?_ | refine st_dok (by exact Nat.le_of_ble_eq_true rfl) ?_ | refine st_kvs (by decide +kernel) (by decide) ?_)
      refine iteF ?_
      repeat (first | with_reducible refine st_var (by with_unfolding_all exact rfl) ?_ | with_reducible refine st_seq ?_ | with_reducible refine st_set ?_ | with_reducible refine st_bin ?_ | with_reducible refine st_c ?_ | with_reducible refine st_cb ?_ | with_reducible refine st_cons ?_ | with_reducible refine st_nil ?_ | with_reducible refine st_b1 ?_ | with_reducible refine st_b2 ?_ | with_reducible refine st_test ?_ | with_reducible refine st_ifS ?_ | with_reducible refine st_ret ?_ | with_reducible refine st_retN ?_ | with_reducible refine st_drop ?_ | with_reducible refine st_next ?_ | with_reducible refine st_un ?_ | with_reducible refine st_call ?_ | with_reducible refine st_callK ?_ | with_reducible refine st_and ?_ | with_reducible refine st_or ?_ | with_reducible refine st_not ?_ | with_reducible refine st_yes ?_ | with_reducible refine st_andV ?_ | with_reducible refine st_orV ?_ | with_reducible refine st_notV ?_ | with_reducible refine st_if ?_ | with_reducible refine st_chain ?_ | with_reducible refine st_disp ?_ | with_reducible refine st_newL ?_ | with_reducible refine st_sl ?_ | with_reducible refine st_noP ?_ | with_reducible refine st_part ?_ | with_reducible refine st_dput ?_ | with_reducible refine st_join ?_ | with_reducible refine st_lc ?_ | with_reducible refine st_rng ?_ | with_reducible refine st_it ?_ | with_reducible refine st_for ?_ | with_reducible refine st_isi2 ?_ | with_reducible refine st_dnew ?_ | with_reducible refine st_dict ?_ | with_reducible refine st_pcons ?_ | with_reducible refine st_pnil ?_ | with_reducible refine st_addI ?_ | with_reducible refine st_i0 ?_ | with_reducible refine st_toInt ?_ | with_reducible refine st_i1 ?_ | with_reducible refine st_neg ?_ | with_reducible refine st_lenL ?_ | with_reducible refine st_lenT ?_ | with_reducible refine st_lenC ?_ | with_reducible refine st_lstL ?_ | with_reducible refine st_lstT ?_ | with_reducible refine st_tupL ?_ | with_reducible refine st_tupT ?_ | with_reducible refine st_reprB ?_ | with_reducible refine st_inS ?_ | with_reducible refine st_getL ?_ | with_reducible refine st_getA ?_ | with_reducible refine st_getC ?_ | with_reducible refine st_putL ?_ | with_reducible refine st_putA ?_ | refine st_dok (by exact Nat.le_of_ble_eq_true rfl) ?_ | refine st_kvs (by decide +kernel) (by decide) ?_)
      refine ⟨p, rfl, tp, ?_⟩
      repeat (first | with_reducible refine st_var (by with_unfolding_all exact rfl) ?_ | with_reducible refine st_seq ?_ | with_reducible refine st_set ?_ | with_reducible refine st_bin ?_ | with_reducible refine st_c ?_ | with_reducible refine st_cb ?_ | with_reducible refine st_cons ?_ | with_reducible refine st_nil ?_ | with_reducible refine st_b1 ?_ | with_reducible refine st_b2 ?_ | with_reducible refine st_test ?_ | with_reducible refine st_ifS ?_ | with_reducible refine st_ret ?_ | with_reducible refine st_retN ?_ | with_reducible refine st_drop ?_ | with_reducible refine st_next ?_ | with_reducible refine st_un ?_ | with_reducible refine st_call ?_ | with_reducible refine st_callK ?_ | with_reducible refine st_and ?_ | with_reducible refine st_or ?_ | with_reducible refine st_not ?_ | with_reducible refine st_yes ?_ | with_reducible refine st_andV ?_ | with_reducible refine st_orV ?_ | with_reducible refine st_notV ?_ | with_reducible refine st_if ?_ | with_reducible refine st_chain ?_ | with_reducible refine st_disp ?_ | with_reducible refine st_newL ?_ | with_reducible refine st_sl ?_ | with_reducible refine st_noP ?_ | with_reducible refine st_part ?_ | with_reducible refine st_dput ?_ | with_reducible refine st_join ?_ | with_reducible refine st_lc ?_ | with_reducible refine st_rng ?_ | with_reducible refine st_it ?_ | with_reducible refine st_for ?_ | with_reducible refine st_isi2 ?_ | with_reducible refine st_dnew ?_ | with_reducible refine st_dict ?_ | with_reducible refine st_pcons ?_ | with_reducible refine st_pnil ?_ | with_reducible refine st_addI ?_ | with_reducible refine st_i0 ?_ | with_reducible refine st_toInt ?_ | with_reducible refine st_i1 ?_ | with_reducible refine st_neg ?_ | with_reducible refine st_lenL ?_ | with_reducible refine st_lenT ?_ | with_reducible refine st_lenC ?_ | with_reducible refine st_lstL ?_ | with_reducible refine st_lstT ?_ | with_reducible refine st_tupL ?_ | with_reducible refine st_tupT ?_ | with_reducible refine st_reprB ?_ | with_reducible refine st_inS ?_ | with_reducible refine st_getL ?_ | with_reducible refine st_getA ?_ | with_reducible refine st_getC ?_ | with_reducible refine st_putL ?_ | with_reducible refine st_putA ?_ | refine st_dok (by exact Nat.le_of_ble_eq_true rfl) ?_ | refine st_kvs (by decide +kernel) (by decide) ?_)
      refine ⟨p, rfl, tp, ?_⟩
      repeat (first | with_reducible refine st_var (by with_unfolding_all exact rfl) ?_ | with_reducible refine st_seq ?_ | with_reducible refine st_set ?_ | with_reducible refine st_bin ?_ | with_reducible refine st_c ?_ | with_reducible refine st_cb ?_ | with_reducible refine st_cons ?_ | with_reducible refine st_nil ?_ | with_reducible refine st_b1 ?_ | with_reducible refine st_b2 ?_ | with_reducible refine st_test ?_ | with_reducible refine st_ifS ?_ | with_reducible refine st_ret ?_ | with_reducible refine st_retN ?_ | with_reducible refine st_drop ?_ | with_reducible refine st_next ?_ | with_reducible refine st_un ?_ | with_reducible refine st_call ?_ | with_reducible refine st_callK ?_ | with_reducible refine st_and ?_ | with_reducible refine st_or ?_ | with_reducible refine st_not ?_ | with_reducible refine st_yes ?_ | with_reducible refine st_andV ?_ | with_reducible refine st_orV ?_ | with_reducible refine st_notV ?_ | with_reducible refine st_if ?_ | with_reducible refine st_chain ?_ | with_reducible refine st_disp ?_ | with_reducible refine st_newL ?_ | with_reducible refine st_sl ?_ | with_reducible refine st_noP ?_ | with_reducible refine st_part ?_ | with_reducible refine st_dput ?_ | with_reducible refine st_join ?_ | with_reducible refine st_lc ?_ | with_reducible refine st_rng ?_ | with_reducible refine st_it ?_ | with_reducible refine st_for ?_ | with_reducible refine st_isi2 ?_ | with_reducible refine st_dnew ?_ | with_reducible refine st_dict ?_ | with_reducible refine st_pcons ?_ | with_reducible refine st_pnil ?_ | with_reducible refine st_addI ?_ | with_reducible refine st_i0 ?_ | with_reducible refine st_toInt ?_ | with_reducible refine st_i1 ?_ | with_reducible refine st_neg ?_ | with_reducible refine st_lenL ?_ | with_reducible refine st_lenT ?_ | with_reducible refine st_lenC ?_ | with_reducible refine st_lstL ?_ | with_reducible refine st_lstT ?_ | with_reducible refine st_tupL ?_ | with_reducible refine st_tupT ?_ | with_reducible refine st_reprB ?_ | with_reducible refine st_inS ?_ | with_reducible refine st_getL ?_ | with_reducible refine st_getA ?_ | with_reducible refine st_getC ?_ | with_reducible refine st_putL ?_ | with_reducible refine st_putA ?_ | refine st_dok (by exact Nat.le_of_ble_eq_true rfl) ?_ | refine st_kvs (by decide +kernel) (by decide) ?_)
      refine reprB_eq _ _ _ ?_
      repeat (first | with_reducible refine st_var (by with_unfolding_all exact rfl) ?_ | with_reducible refine st_seq ?_ | with_reducible refine st_set ?_ | with_reducible refine st_bin ?_ | with_reducible refine st_c ?_ | with_reducible refine st_cb ?_ | with_reducible refine st_cons ?_ | with_reducible refine st_nil ?_ | with_reducible refine st_b1 ?_ | with_reducible refine st_b2 ?_ | with_reducible refine st_test ?_ | with_reducible refine st_ifS ?_ | with_reducible refine st_ret ?_ | with_reducible refine st_retN ?_ | with_reducible refine st_drop ?_ | with_reducible refine st_next ?_ | with_reducible refine st_un ?_ | with_reducible refine st_call ?_ | with_reducible refine st_callK ?_ | with_reducible refine st_and ?_ | with_reducible refine st_or ?_ | with_reducible refine st_not ?_ | with_reducible refine st_yes ?_ | with_reducible refine st_andV ?_ | with_reducible refine st_orV ?_ | with_reducible refine st_notV ?_ | with_reducible refine st_if ?_ | with_reducible refine st_chain ?_ | with_reducible refine st_disp ?_ | with_reducible refine st_newL ?_ | with_reducible refine st_sl ?_ | with_reducible refine st_noP ?_ | with_reducible refine st_part ?_ | with_reducible refine st_dput ?_ | with_reducible refine st_join ?_ | with_reducible refine st_lc ?_ | with_reducible refine st_rng ?_ | with_reducible refine st_it ?_ | with_reducible refine st_for ?_ | with_reducible refine st_isi2 ?_ | with_reducible refine st_dnew ?_ | with_reducible refine st_dict ?_ | with_reducible refine st_pcons ?_ | with_reducible refine st_pnil ?_ | with_reducible refine st_addI ?_ | with_reducible refine st_i0 ?_ | with_reducible refine st_toInt ?_ | with_reducible refine st_i1 ?_ | with_reducible refine st_neg ?_ | with_reducible refine st_lenL ?_ | with_reducible refine st_lenT ?_ | with_reducible refine st_lenC ?_ | with_reducible refine st_lstL ?_ | with_reducible refine st_lstT ?_ | with_reducible refine st_tupL ?_ | with_reducible refine st_tupT ?_ | with_reducible refine st_reprB ?_ | with_reducible refine st_inS ?_ | with_reducible refine st_getL ?_ | with_reducible refine st_getA ?_ | with_reducible refine st_getC ?_ | with_reducible refine st_putL ?_ | with_reducible refine st_putA ?_ | refine st_dok (by exact Nat.le_of_ble_eq_true rfl) ?_ | refine st_kvs (by decide +kernel) (by decide) ?_)
      refine iteF ?_
      exact st_next (hnx' _ _ ⟨_, _, _, rfl, rfl⟩)
    · rintro r S ⟨a, b, c, rfl, rfl⟩
      exact hnx _ _ ⟨g5, _, _, _, rfl, f5', rfl⟩
  · rintro r S ⟨g, a, b, c, rfl, fg, rfl⟩
    repeat (first | with_reducible refine st_var (by with_unfolding_all exact rfl) ?_ | with_reducible refine st_seq ?_ | with_reducible refine st_set ?_ | with_reducible refine st_bin ?_ | with_reducible refine st_c ?_ | with_reducible refine st_cb ?_ | with_reducible refine st_cons ?_ | with_reducible refine st_nil ?_ | with_reducible refine st_b1 ?_ | with_reducible refine st_b2 ?_ | with_reducible refine st_test ?_ | with_reducible refine st_ifS ?_ | with_reducible refine st_ret ?_ | with_reducible refine st_retN ?_ | with_reducible refine st_drop ?_ | with_reducible refine st_next ?_ | with_reducible refine st_un ?_ | with_reducible refine st_call ?_ | with_reducible refine st_callK ?_ | with_reducible refine st_and ?_ | with_reducible refine st_or ?_ | with_reducible refine st_not ?_ | with_reducible refine st_yes ?_ | with_reducible refine st_andV ?_ | with_reducible refine st_orV ?_ | with_reducible refine st_notV ?_ | with_reducible refine st_if ?_ | with_reducible refine st_chain ?_ | with_reducible refine st_disp ?_ | with_reducible refine st_newL ?_ | with_reducible refine st_sl ?_ | with_reducible refine st_noP ?_ | with_reducible refine st_part ?_ | with_reducible refine st_dput ?_ | with_reducible refine st_join ?_ | with_reducible refine st_lc ?_ | with_reducible refine st_rng ?_ | with_reducible refine st_it ?_ | with_reducible refine st_for ?_ | with_reducible refine st_isi2 ?_ | with_reducible refine st_dnew ?_ | with_reducible refine st_dict ?_ | with_reducible refine st_pcons ?_ | with_reducible refine st_pnil ?_ | with_reducible refine st_addI ?_ | with_reducible refine st_i0 ?_ | with_reducible refine st_toInt ?_ | with_reducible refine st_i1 ?_ | with_reducible refine st_neg ?_ | with_reducible refine st_lenL ?_ | with_reducible refine st_lenT ?_ | with_reducible refine st_lenC ?_ | with_reducible refine st_lstL ?_ | with_reducible refine st_lstT ?_ | with_reducible refine st_tupL ?_ | with_reducible refine st_tupT ?_ | with_reducible refine st_reprB ?_ | with_reducible refine st_inS ?_ | with_reducible refine st_getL ?_ | with_reducible refine st_getA ?_ | with_reducible refine st_getC ?_ | with_reducible refine st_putL ?_ | with_reducible refine st_putA ?_ | refine st_dok (by exact Nat.le_of_ble_eq_true rfl) ?_ | refine st_kvs (by decide +kernel) (by decide) ?_)
    refine ⟨.str (Str.ofString "abcdefgh"), rfl, ⟨by decide +kernel, by decide +kernel⟩, ?_⟩
    have e1 : isName (.str (Str.ofString "abcdefgh")) = true := by decide +kernel
    rw [e1]
    repeat (first | with_reducible refine st_var (by with_unfolding_all exact rfl) ?_ | with_reducible refine st_seq ?_ | with_reducible refine st_set ?_ | with_reducible refine st_bin ?_ | with_reducible refine st_c ?_ | with_reducible refine st_cb ?_ | with_reducible refine st_cons ?_ | with_reducible refine st_nil ?_ | with_reducible refine st_b1 ?_ | with_reducible refine st_b2 ?_ | with_reducible refine st_test ?_ | with_reducible refine st_ifS ?_ | with_reducible refine st_ret ?_ | with_reducible refine st_retN ?_ | with_reducible refine st_drop ?_ | with_reducible refine st_next ?_ | with_reducible refine st_un ?_ | with_reducible refine st_call ?_ | with_reducible refine st_callK ?_ | with_reducible refine st_and ?_ | with_reducible refine st_or ?_ | with_reducible refine st_not ?_ | with_reducible refine st_yes ?_ | with_reducible refine st_andV ?_ | with_reducible refine st_orV ?_ | with_reducible refine st_notV ?_ | with_reducible refine st_if ?_ | with_reducible refine st_chain ?_ | with_reducible refine st_disp ?_ | with_reducible refine st_newL ?_ | with_reducible refine st_sl ?_ | with_reducible refine st_noP ?_ | with_reducible refine st_part ?_ | with_reducible refine st_dput ?_ | with_reducible refine st_join ?_ | with_reducible refine st_lc ?_ | with_reducible refine st_rng ?_ | with_reducible refine st_it ?_ | with_reducible refine st_for ?_ | with_reducible refine st_isi2 ?_ | with_reducible refine st_dnew ?_ | with_reducible refine st_dict ?_ | with_reducible refine st_pcons ?_ | with_reducible refine st_pnil ?_ | with_reducible refine st_addI ?_ | with_reducible refine st_i0 ?_ | with_reducible refine st_toInt ?_ | with_reducible refine st_i1 ?_ | with_reducible refine st_neg ?_ | with_reducible refine st_lenL ?_ | with_reducible refine st_lenT ?_ | with_reducible refine st_lenC ?_ | with_reducible refine st_lstL ?_ | with_reducible refine st_lstT ?_ | with_reducible refine st_tupL ?_ | with_reducible refine st_tupT ?_ | with_reducible refine st_reprB ?_ | with_reducible refine st_inS ?_ | with_reducible refine st_getL ?_ | with_reducible refine st_getA ?_ | with_reducible refine st_getC ?_ | with_reducible refine st_putL ?_ | with_reducible refine st_putA ?_ | refine st_dok (by exact Nat.le_of_ble_eq_true rfl) ?_ | refine st_kvs (by decide +kernel) (by decide) ?_)
    refine ⟨rfl, ?_⟩
    repeat (first | with_reducible refine st_var (by with_unfolding_all exact rfl) ?_ | with_reducible refine st_seq ?_ | with_reducible refine st_set ?_ | with_reducible refine st_bin ?_ | with_reducible refine st_c ?_ | with_reducible refine st_cb ?_ | with_reducible refine st_cons ?_ | with_reducible refine st_nil ?_ | with_reducible refine st_b1 ?_ | with_reducible refine st_b2 ?_ | with_reducible refine st_test ?_ | with_reducible refine st_ifS ?_ | with_reducible refine st_ret ?_ | with_reducible refine st_retN ?_ | with_reducible refine st_drop ?_ | with_reducible refine st_next ?_ | with_reducible refine st_un ?_ | with_reducible refine st_call ?_ | with_reducible refine st_callK ?_ | with_reducible refine st_and ?_ | with_reducible refine st_or ?_ | with_reducible refine st_not ?_ | with_reducible refine st_yes ?_ | with_reducible refine st_andV ?_ | with_reducible refine st_orV ?_ | with_reducible refine st_notV ?_ | with_reducible refine st_if ?_ | with_reducible refine st_chain ?_ | with_reducible refine st_disp ?_ | with_reducible refine st_newL ?_ | with_reducible refine st_sl ?_ | with_reducible refine st_noP ?_ | with_reducible refine st_part ?_ | with_reducible refine st_dput ?_ | with_reducible refine st_join ?_ | with_reducible refine st_lc ?_ | with_reducible refine st_rng ?_ | with_reducible refine st_it ?_ | with_reducible refine st_for ?_ | with_reducible refine st_isi2 ?_ | with_reducible refine st_dnew ?_ | with_reducible refine st_dict ?_ | with_reducible refine st_pcons ?_ | with_reducible refine st_pnil ?_ | with_reducible refine st_addI ?_ | with_reducible refine st_i0 ?_ | with_reducible refine st_toInt ?_ | with_reducible refine st_i1 ?_ | with_reducible refine st_neg ?_ | with_reducible refine st_lenL ?_ | with_reducible refine st_lenT ?_ | with_reducible refine st_lenC ?_ | with_reducible refine st_lstL ?_ | with_reducible refine st_lstT ?_ | with_reducible refine st_tupL ?_ | with_reducible refine st_tupT ?_ | with_reducible refine st_reprB ?_ | with_reducible refine st_inS ?_ | with_reducible refine st_getL ?_ | with_reducible refine st_getA ?_ | with_reducible refine st_getC ?_ | with_reducible refine st_putL ?_ | with_reducible refine st_putA ?_ | refine st_dok (by exact Nat.le_of_ble_eq_true rfl) ?_ | refine st_kvs (by decide +kernel) (by decide) ?_)
    refine ⟨.bl false, rfl, trivial, ?_⟩
    repeat (first | with_reducible refine st_var (by with_unfolding_all exact rfl) ?_ | with_reducible refine st_seq ?_ | with_reducible refine st_set ?_ | with_reducible refine st_bin ?_ | with_reducible refine st_c ?_ | with_reducible refine st_cb ?_ | with_reducible refine st_cons ?_ | with_reducible refine st_nil ?_ | with_reducible refine st_b1 ?_ | with_reducible refine st_b2 ?_ | with_reducible refine st_test ?_ | with_reducible refine st_ifS ?_ | with_reducible refine st_ret ?_ | with_reducible refine st_retN ?_ | with_reducible refine st_drop ?_ | with_reducible refine st_next ?_ | with_reducible refine st_un ?_ | with_reducible refine st_call ?_ | with_reducible refine st_callK ?_ | with_reducible refine st_and ?_ | with_reducible refine st_or ?_ | with_reducible refine st_not ?_ | with_reducible refine st_yes ?_ | with_reducible refine st_andV ?_ | with_reducible refine st_orV ?_ | with_reducible refine st_notV ?_ | with_reducible refine st_if ?_ | with_reducible refine st_chain ?_ | with_reducible refine st_disp ?_ | with_reducible refine st_newL ?_ | with_reducible refine st_sl ?_ | with_reducible refine st_noP ?_ | with_reducible refine st_part ?_ | with_reducible refine st_dput ?_ | with_reducible refine st_join ?_ | with_reducible refine st_lc ?_ | with_reducible refine st_rng ?_ | with_reducible refine st_it ?_ | with_reducible refine st_for ?_ | with_reducible refine st_isi2 ?_ | with_reducible refine st_dnew ?_ | with_reducible refine st_dict ?_ | with_reducible refine st_pcons ?_ | with_reducible refine st_pnil ?_ | with_reducible refine st_addI ?_ | with_reducible refine st_i0 ?_ | with_reducible refine st_toInt ?_ | with_reducible refine st_i1 ?_ | with_reducible refine st_neg ?_ | with_reducible refine st_lenL ?_ | with_reducible refine st_lenT ?_ | with_reducible refine st_lenC ?_ | with_reducible refine st_lstL ?_ | with_reducible refine st_lstT ?_ | with_reducible refine st_tupL ?_ | with_reducible refine st_tupT ?_ | with_reducible refine st_reprB ?_ | with_reducible refine st_inS ?_ | with_reducible refine st_getL ?_ | with_reducible refine st_getA ?_ | with_reducible refine st_getC ?_ | with_reducible refine st_putL ?_ | with_reducible refine st_putA ?_ | refine st_dok (by exact Nat.le_of_ble_eq_true rfl) ?_ | refine st_kvs (by decide +kernel) (by decide) ?_)
    refine ⟨rfl, ?_⟩
    exact h _
theorem law_true (ns : List Int) (hl : ns.length ≤ 63) : sp_law [.p (.scr (ns.map RB.P.int))] [] (fun d _ => d = .p (.bl true)) fun _ _ => False := ⟨ns, rfl, rfl, hl, fun _ => rfl⟩
def top (i : Nat) : Stmt := PySem.Challenge.pw_rockbeds_k02_names_and_levels.main.body.getD i (.Pass ⟨0, 0, 0, 0⟩)
abbrev s_is_name : Stmt := top 3
abbrev s_is_level : Stmt := top 4
abbrev s__law_feed : Stmt := top 6
abbrev s__law_draw : Stmt := top 7
abbrev s__law_pick : Stmt := top 8
abbrev s__law_any : Stmt := top 9
abbrev s__law_is_int : Stmt := top 10
abbrev s__law_is_word : Stmt := top 11
abbrev s__law_word : Stmt := top 12
abbrev s_law : Stmt := top 13
/-- what the top leaves -/
structure Tx (G : Glob) (mg : Str → Option Value) where
  a_is_name : Addr
  d_is_name : FuncData
  F_is_name : FunD G.K (Str.ofString "is_name") (Str.ofString "is_name") (defArgs s_is_name) (defBody s_is_name) (defScope s_is_name) [] [] a_is_name d_is_name
  g_is_name : mg (Str.ofString "is_name") = some (.ref a_is_name)
  a_is_level : Addr
  d_is_level : FuncData
  F_is_level : FunD G.K (Str.ofString "is_level") (Str.ofString "is_level") (defArgs s_is_level) (defBody s_is_level) (defScope s_is_level) [] [] a_is_level d_is_level
  g_is_level : mg (Str.ofString "is_level") = some (.ref a_is_level)
  a__law_feed : Addr
  d__law_feed : FuncData
  F__law_feed : FunD G.K (Str.ofString "_law_feed") (Str.ofString "_law_feed") (defArgs s__law_feed) (defBody s__law_feed) (defScope s__law_feed) [] [] a__law_feed d__law_feed
  g__law_feed : mg (Str.ofString "_law_feed") = some (.ref a__law_feed)
  a__law_draw : Addr
  d__law_draw : FuncData
  F__law_draw : FunD G.K (Str.ofString "_law_draw") (Str.ofString "_law_draw") (defArgs s__law_draw) (defBody s__law_draw) (defScope s__law_draw) [] [] a__law_draw d__law_draw
  g__law_draw : mg (Str.ofString "_law_draw") = some (.ref a__law_draw)
  a__law_pick : Addr
  d__law_pick : FuncData
  F__law_pick : FunD G.K (Str.ofString "_law_pick") (Str.ofString "_law_pick") (defArgs s__law_pick) (defBody s__law_pick) (defScope s__law_pick) [] [] a__law_pick d__law_pick
  g__law_pick : mg (Str.ofString "_law_pick") = some (.ref a__law_pick)
  a__law_any : Addr
  d__law_any : FuncData
  F__law_any : FunD G.K (Str.ofString "_law_any") (Str.ofString "_law_any") (defArgs s__law_any) (defBody s__law_any) (defScope s__law_any) [] [] a__law_any d__law_any
  g__law_any : mg (Str.ofString "_law_any") = some (.ref a__law_any)
  a__law_is_int : Addr
  d__law_is_int : FuncData
  F__law_is_int : FunD G.K (Str.ofString "_law_is_int") (Str.ofString "_law_is_int") (defArgs s__law_is_int) (defBody s__law_is_int) (defScope s__law_is_int) [] [] a__law_is_int d__law_is_int
  g__law_is_int : mg (Str.ofString "_law_is_int") = some (.ref a__law_is_int)
  a__law_is_word : Addr
  d__law_is_word : FuncData
  F__law_is_word : FunD G.K (Str.ofString "_law_is_word") (Str.ofString "_law_is_word") (defArgs s__law_is_word) (defBody s__law_is_word) (defScope s__law_is_word) [] [] a__law_is_word d__law_is_word
  g__law_is_word : mg (Str.ofString "_law_is_word") = some (.ref a__law_is_word)
  a__law_word : Addr
  d__law_word : FuncData
  F__law_word : FunD G.K (Str.ofString "_law_word") (Str.ofString "_law_word") (defArgs s__law_word) (defBody s__law_word) (defScope s__law_word) [] [] a__law_word d__law_word
  g__law_word : mg (Str.ofString "_law_word") = some (.ref a__law_word)
  a_law : Addr
  d_law : FuncData
  F_law : FunD G.K (Str.ofString "law") (Str.ofString "law") (defArgs s_law) (defBody s_law) (defScope s_law) [] [] a_law d_law
  g_law : mg (Str.ofString "law") = some (.ref a_law)
  b_abs : mg (Str.ofString "abs") = none
  b_all : mg (Str.ofString "all") = none
  b_bool : mg (Str.ofString "bool") = none
  b_int : mg (Str.ofString "int") = none
  b_isinstance : mg (Str.ofString "isinstance") = none
  b_len : mg (Str.ofString "len") = none
  b_list : mg (Str.ofString "list") = none
  b_min : mg (Str.ofString "min") = none
  b_range : mg (Str.ofString "range") = none
  b_repr : mg (Str.ofString "repr") = none
  b_str : mg (Str.ofString "str") = none
  b_tuple : mg (Str.ofString "tuple") = none
  c_LETTERS : ∃ t, mg (Str.ofString "LETTERS") = some (.str (Str.ofString "abcdefghijklmnopqrstuvwxyz") t)
  c_LONGEST_NAME : ∃ t, mg (Str.ofString "LONGEST_NAME") = some (.int 8 t)
section
variable {G : Glob} {P : Program} {w : World} {mg : Str → Option Value} {base : Heap}
theorem sc_is_name : FnScope N_is_name ps_is_name (defScope s_is_name) := ⟨rfl, rfl, rfl, by decide +kernel, rfl, by decide +kernel, by decide +kernel⟩
theorem bi_is_name (T : Tx G mg) : Binds G.K T.d_is_name ps_is_name [] := T.F_is_name.bindsN fun _ _ _ _ _ _ us hl => match us, hl with | [_], _ => rfl
theorem kb_is_name (T : Tx G mg) (s : Shared) (ws : List Value) (hK : G.K.In s.heap) (hl : ws.length = ps_is_name.length) : BindsTo s T.d_is_name ⟨[], ps_is_name.zip ws⟩ (ps_is_name.zip ws) := kb_of (g := fun ws => ws) T.F_is_name (fun _ _ _ _ _ _ us hl => match us, hl with | [_], _ => rfl) s ws hl
theorem sc_is_level : FnScope N_is_level ps_is_level (defScope s_is_level) := ⟨rfl, rfl, rfl, by decide +kernel, rfl, by decide +kernel, by decide +kernel⟩
theorem bi_is_level (T : Tx G mg) : Binds G.K T.d_is_level ps_is_level [] := T.F_is_level.bindsN fun _ _ _ _ _ _ us hl => match us, hl with | [_], _ => rfl
theorem kb_is_level (T : Tx G mg) (s : Shared) (ws : List Value) (hK : G.K.In s.heap) (hl : ws.length = ps_is_level.length) : BindsTo s T.d_is_level ⟨[], ps_is_level.zip ws⟩ (ps_is_level.zip ws) := kb_of (g := fun ws => ws) T.F_is_level (fun _ _ _ _ _ _ us hl => match us, hl with | [_], _ => rfl) s ws hl
theorem sc__law_feed : FnScope N__law_feed ps__law_feed (defScope s__law_feed) := ⟨rfl, rfl, rfl, by decide +kernel, rfl, by decide +kernel, by decide +kernel⟩
theorem bi__law_feed (T : Tx G mg) : Binds G.K T.d__law_feed ps__law_feed [] := T.F__law_feed.bindsN fun _ _ _ _ _ _ us hl => match us, hl with | [_], _ => rfl
theorem sc__law_draw : FnScope N__law_draw ps__law_draw (defScope s__law_draw) := ⟨rfl, rfl, rfl, by decide +kernel, rfl, by decide +kernel, by decide +kernel⟩
theorem bi__law_draw (T : Tx G mg) : Binds G.K T.d__law_draw ps__law_draw [] := T.F__law_draw.bindsN fun _ _ _ _ _ _ us hl => match us, hl with | [_, _], _ => rfl
theorem sc__law_pick : FnScope N__law_pick ps__law_pick (defScope s__law_pick) := ⟨rfl, rfl, rfl, by decide +kernel, rfl, by decide +kernel, by decide +kernel⟩
theorem bi__law_pick (T : Tx G mg) : Binds G.K T.d__law_pick ps__law_pick [] := T.F__law_pick.bindsN fun _ _ _ _ _ _ us hl => match us, hl with | [_, _], _ => rfl
theorem sc__law_any : FnScope N__law_any ps__law_any (defScope s__law_any) := ⟨rfl, rfl, rfl, by decide +kernel, rfl, by decide +kernel, by decide +kernel⟩
theorem bi__law_any (T : Tx G mg) : Binds G.K T.d__law_any ps__law_any [] := T.F__law_any.bindsN fun _ _ _ _ _ _ us hl => match us, hl with | [_, _], _ => rfl
theorem sc__law_is_int : FnScope N__law_is_int ps__law_is_int (defScope s__law_is_int) := ⟨rfl, rfl, rfl, by decide +kernel, rfl, by decide +kernel, by decide +kernel⟩
theorem bi__law_is_int (T : Tx G mg) : Binds G.K T.d__law_is_int ps__law_is_int [] := T.F__law_is_int.bindsN fun _ _ _ _ _ _ us hl => match us, hl with | [_], _ => rfl
theorem sc__law_is_word : FnScope N__law_is_word ps__law_is_word (defScope s__law_is_word) := ⟨rfl, rfl, rfl, by decide +kernel, rfl, by decide +kernel, by decide +kernel⟩
theorem bi__law_is_word (T : Tx G mg) : Binds G.K T.d__law_is_word ps__law_is_word [] := T.F__law_is_word.bindsN fun _ _ _ _ _ _ us hl => match us, hl with | [_], _ => rfl
theorem sc__law_word : FnScope N__law_word ps__law_word (defScope s__law_word) := ⟨rfl, rfl, rfl, by decide +kernel, rfl, by decide +kernel, by decide +kernel⟩
theorem bi__law_word (T : Tx G mg) : Binds G.K T.d__law_word ps__law_word [] := T.F__law_word.bindsN fun _ _ _ _ _ _ us hl => match us, hl with | [_], _ => rfl
theorem sc_law : FnScope N_law ps_law (defScope s_law) := ⟨rfl, rfl, rfl, by decide +kernel, rfl, by decide +kernel, by decide +kernel⟩
theorem bi_law (T : Tx G mg) : Binds G.K T.d_law ps_law [] := T.F_law.bindsN fun _ _ _ _ _ _ us hl => match us, hl with | [_], _ => rfl
theorem ok_is_name (T : Tx G mg) : FnG G P w mg base 1 T.a_is_name T.d_is_name ps_is_name sp_is_name :=
  fn_g (k := 0) T.F_is_name sc_is_name mon_is_name len_is_name (fun cdv A outer s H E C =>
    (rss_cons (rs_if (rw_or (rt_not (rt_val (re_callB (cl_isi (by rfl)) (by rfl) T.b_isinstance bo_isinstance (ra_cons (re_var 0) (ra_cons (re_ty (by rfl) T.b_str bo_str) ra_nil))))) (rw_or1 (rt_not (rt_chain ol_le ol_le re_int (re_callB (cl_len (by rfl)) (by rfl) T.b_len bo_len (ra_cons (re_var 0) ra_nil)) (re_gint (by rfl) T.c_LONGEST_NAME.choose_spec))))).rt (rss_one (rs_ret re_bl)) rss_nil)
      (rss_one (rs_ret (re_callB (cl_all (by rfl) (by rfl)) (by rfl) T.b_all bo_all (ra_cons (re_lc (own := [((Str.ofString "sign"), 1)]) (T := (.nm 1)) (by rfl) (by rfl) sc_is_name.nd (ri_seq (by rfl) (re_var 0)) (blkOk_by (own := [((Str.ofString "sign"), 1)]) (N := N_is_name) (sc := defScope s_is_name) (by decide +kernel)) (by decide) (fun s1 H1 a1 cl1 fp1 => (pg_name (i := 1) sc_is_name.nd (by rfl) (Or.inl (by rfl)))) (fun s1 H1 a1 cl1 fp1 => rts_nil) (fun s1 H1 a1 cl1 fp1 => (re_cmp ol_inS (re_var 1) (re_gstr (by rfl) T.c_LETTERS.choose_spec) (by rfl)))) ra_nil)))))) pur_is_name
theorem ok_is_level (T : Tx G mg) : FnG G P w mg base 1 T.a_is_level T.d_is_level ps_is_level sp_is_level :=
  fn_g (k := 0) T.F_is_level sc_is_level mon_is_level len_is_level (fun cdv A outer s H E C =>
    (rss_one (rs_ret (re_and (re_callB (cl_isi (by rfl)) (by rfl) T.b_isinstance bo_isinstance (ra_cons (re_var 0) (ra_cons (re_ty (by rfl) T.b_int bo_int) ra_nil))) (re_one (re_not (re_callB (cl_isi (by rfl)) (by rfl) T.b_isinstance bo_isinstance (ra_cons (re_var 0) (ra_cons (re_ty (by rfl) T.b_bool bo_bool) ra_nil))))))))) pur_is_level
theorem ok__law_feed (T : Tx G mg) : FnG G P w mg base 1 T.a__law_feed T.d__law_feed ps__law_feed sp__law_feed :=
  fn_g (k := 0) T.F__law_feed sc__law_feed mon__law_feed len__law_feed (fun cdv A outer s H E C =>
    (rss_one (rs_ret (re_dictC (rp_cons re_str (re_callTy (cl_list (by rfl)) (by rfl) T.b_list bo_list (ra_cons (re_slice (by rfl) (re_var 0) ro_none (ro_some re_int)) ra_nil)) (rp_cons re_str re_int (rp_cons re_str re_int rp_nil))) (by rfl) (by rfl) (fun z => by cases z) (by decide))))) pur__law_feed
theorem ok__law_draw (T : Tx G mg) : FnG G P w mg base 1 T.a__law_draw T.d__law_draw ps__law_draw sp__law_draw :=
  fn_g (k := 0) T.F__law_draw sc__law_draw mon__law_draw len__law_draw (fun cdv A outer s H E C =>
    (rss_cons (rs_if (rt_cmp ol_gt (re_dget C.h1 (re_var 0) re_str) re_int (nomark _)) (rss_cons (rs_set (i := 7) sc__law_draw.nd (by rfl) (Or.inl (by rfl)) (re_bin ol_mod (re_callTy cl_int (by rfl) T.b_int bo_int (ra_cons (re_dget C.h1 (re_var 0) re_str) ra_nil)) (re_var 1)))
      (rss_cons (rs_dput C.h1 (re_var 0) re_str (re_bin ol_fdiv (re_dget C.h1 (re_var 0) re_str) (re_var 1)))
      (rss_one (rs_ret (re_var 7))))) rss_nil)
      (rss_cons (rs_set (i := 2) sc__law_draw.nd (by rfl) (Or.inl (by rfl)) (re_dget C.h1 (re_var 0) re_str))
      (rss_cons (rs_dput C.h1 (re_var 0) re_str (re_bin (ol_add (by rfl)) (re_var 2) re_int))
      (rss_cons (rs_set (i := 3) sc__law_draw.nd (by rfl) (Or.inl (by rfl)) (re_bin (ol_add (by rfl)) (re_bin ol_mul re_int (re_var 2)) re_int))
      (rss_cons (rs_if (rt_cmp (ol_ne (by rfl) C.hu) (re_dget C.h1 (re_var 0) re_str) (re_lst ra_nil) (nomark _)) (rss_one (rs_set (i := 3) sc__law_draw.nd (by rfl) (Or.inl (by rfl)) (re_ix (il_ix (by rfl)) (re_dget C.h1 (re_var 0) re_str) (re_bin ol_mod (re_callTy cl_int (by rfl) T.b_int bo_int (ra_cons (re_var 2) ra_nil)) (re_callB (cl_len (by rfl)) (by rfl) T.b_len bo_len (ra_cons (re_dget C.h1 (re_var 0) re_str) ra_nil)))))) rss_nil)
      (rss_cons (rs_if (rw_and (rt_cmp ol_lt (re_var 2) (re_callB (cl_len (by rfl)) (by rfl) T.b_len bo_len (ra_cons (re_dget C.h1 (re_var 0) re_str) ra_nil)) (nomark _)) (rw_and1 (rt_cmp ol_ge (re_callB cl_abs (by rfl) T.b_abs bo_abs (ra_cons (re_var 3) ra_nil)) (re_bin ol_pow re_int re_int) (nomark _)))).rt (rss_cons (rs_dput C.h1 (re_var 0) re_str (re_bin ol_fdiv (re_bin ol_sub (re_callB cl_abs (by rfl) T.b_abs bo_abs (ra_cons (re_var 3) ra_nil)) (re_bin ol_pow re_int re_int)) (re_var 1)))
      (rss_one (rs_ret (re_bin ol_mod (re_bin ol_sub (re_callB cl_abs (by rfl) T.b_abs bo_abs (ra_cons (re_var 3) ra_nil)) (re_bin ol_pow re_int re_int)) (re_var 1))))) rss_nil)
      (rss_cons (rs_set (i := 4) sc__law_draw.nd (by rfl) (Or.inl (by rfl)) (re_lst (ra_cons re_int (ra_cons re_int (ra_cons re_int (ra_cons re_int (ra_cons re_int ra_nil)))))))
      (rss_cons (rs_set (i := 5) sc__law_draw.nd (by rfl) (Or.inl (by rfl)) (re_ix (il_ix (by rfl)) (re_var 4) (re_bin ol_mod (re_callTy cl_int (by rfl) T.b_int bo_int (ra_cons (re_var 2) ra_nil)) re_int)))
      (rss_cons (rs_set (i := 6) sc__law_draw.nd (by rfl) (Or.inl (by rfl)) (re_bin ol_mod (re_callTy cl_int (by rfl) T.b_int bo_int (ra_cons (re_bin (ol_add (by rfl)) (re_bin (ol_add (by rfl)) (re_bin (ol_add (by rfl)) (re_bin ol_mul (re_bin ol_mod (re_callTy cl_int (by rfl) T.b_int bo_int (ra_cons (re_var 3) ra_nil)) (re_var 5)) re_int) (re_bin ol_mul (re_bin ol_mul re_int (re_var 2)) (re_var 2))) (re_bin ol_mul re_int (re_var 2))) re_int) ra_nil)) (re_var 5)))
      (rss_cons (rs_set (i := 6) sc__law_draw.nd (by rfl) (Or.inl (by rfl)) (re_bin ol_mod (re_callTy cl_int (by rfl) T.b_int bo_int (ra_cons (re_bin ol_mul (re_var 6) (re_bin (ol_add (by rfl)) (re_var 6) re_int)) ra_nil)) (re_ix (il_ix (by rfl)) (re_var 4) (re_bin ol_mod (re_callTy cl_int (by rfl) T.b_int bo_int (ra_cons (re_bin (ol_add (by rfl)) (re_var 2) re_int) ra_nil)) re_int))))
      (rss_one (rs_ret (re_bin ol_mod (re_callTy cl_int (by rfl) T.b_int bo_int (ra_cons (re_bin ol_fdiv (re_bin ol_mod (re_callTy cl_int (by rfl) T.b_int bo_int (ra_cons (re_bin ol_mul (re_var 6) (re_var 6)) ra_nil)) re_int) re_int) ra_nil)) (re_var 1))))))))))))))) pur__law_draw
theorem ok__law_pick (T : Tx G mg) : FnG G P w mg base 2 T.a__law_pick T.d__law_pick ps__law_pick sp__law_pick :=
  fn_g (k := 1) T.F__law_pick sc__law_pick mon__law_pick len__law_pick (fun cdv A outer s H E C =>
    (rss_one (rs_ret (re_ix (il_ix (by rfl)) (re_var 1) (re_callN C (ok__law_draw T) (by decide) (by rfl) T.g__law_draw T.F__law_draw.kp (bi__law_draw T) (ra_cons (re_var 0) (ra_cons (re_callB (cl_len (by rfl)) (by rfl) T.b_len bo_len (ra_cons (re_var 1) ra_nil)) ra_nil))))))) pur__law_pick
theorem ok__law_any (T : Tx G mg) : ∀ n : Nat, FnG G P w mg base (3 + n) T.a__law_any T.d__law_any ps__law_any (sp__law_any n)
  | 0 => ⟨mon__law_any, len__law_any, fun _ _ _ _ _ _ _ _ _ _ _ _ _ _ ⟨_, _, _, _, _, h⟩ => (nil__law_any _ _ _ _ h).elim⟩
  | n + 1 => by
    have ih := ok__law_any T n
    refine fn_g (k := 3 + n) T.F__law_any sc__law_any mon__law_any len__law_any (fun cdv A outer s H E C => ?_) pur__law_any
    exact (rss_cons (rs_set (i := 2) sc__law_any.nd (by rfl) (Or.inl (by rfl)) (re_lst (ra_cons re_non (ra_cons re_bl (ra_cons re_bl (ra_cons re_int (ra_cons re_int (ra_cons (re_un ul_neg re_int) (ra_cons re_int (ra_cons (re_bin ol_pow re_int re_int) (ra_cons re_str (ra_cons re_str (ra_cons re_str (ra_cons re_str (ra_cons re_str (ra_cons re_str (ra_cons re_str (ra_cons re_str (ra_cons re_str ra_nil)))))))))))))))))))
      (rss_cons (rs_set (i := 2) sc__law_any.nd (by rfl) (Or.inl (by rfl)) (re_bin (ol_add (by rfl)) (re_var 2) (re_lst (ra_cons re_str (ra_cons re_str (ra_cons re_str (ra_cons (re_tup ra_nil) (ra_cons (re_lst ra_nil) (ra_cons re_dnew (ra_cons (re_tup (ra_cons re_str (ra_cons re_int (ra_cons re_non ra_nil)))) (ra_cons (re_lst (ra_cons (re_tup (ra_cons re_str (ra_cons re_int (ra_cons re_non ra_nil)))) ra_nil)) (ra_cons (re_tup (ra_cons re_str (ra_cons re_str ra_nil))) (ra_cons (re_dict (rp_cons re_str re_int rp_nil) (by rfl) (by rfl) (fun z => by cases z) (by decide)) ra_nil)))))))))))))
      (rss_cons (rs_if (rt_cmp ol_gt (re_var 1) re_int (nomark _)) (rss_cons (rs_setLc (i := 3) (own := [((Str.ofString "_law_k"), 4)]) (T := (.nm 4)) (by rfl) (by rfl) sc__law_any.nd (by rfl) (by rfl) (sw_true (by rfl) (by rfl) (by rfl) (by decide +kernel)) (ri_range1 (by rfl) T.b_range (re_callN C (ok__law_draw T) (by omega) (by rfl) T.g__law_draw T.F__law_draw.kp (bi__law_draw T) (ra_cons (re_var 0) (ra_cons re_int ra_nil)))) (blkOk_by (own := [((Str.ofString "_law_k"), 4)]) (N := N__law_any) (sc := defScope s__law_any) (by decide +kernel)) (by decide) (fun s1 H1 a1 cl1 fp1 => (pg_name (i := 4) sc__law_any.nd (by rfl) (Or.inl (by rfl)))) (fun s1 H1 a1 cl1 fp1 => rts_nil) (fun s1 H1 a1 cl1 fp1 => have C1 := C.blk s1 H1 _ _ fp1; (re_callN C1 ih (by omega) (by rfl) T.g__law_any T.F__law_any.kp (bi__law_any T) (ra_cons (re_var 0) (ra_cons (re_bin ol_sub (re_var 1) re_int) ra_nil)))))
      (rss_one (rs_set (i := 2) sc__law_any.nd (by rfl) (Or.inl (by rfl)) (re_bin (ol_add (by rfl)) (re_var 2) (re_lst (ra_cons (re_var 3) (ra_cons (re_callTy (cl_tuple (by rfl)) (by rfl) T.b_tuple bo_tuple (ra_cons (re_var 3) ra_nil)) (ra_cons (re_dict (rp_cons re_str (re_callTy (cl_tuple (by rfl)) (by rfl) T.b_tuple bo_tuple (ra_cons (re_var 3) ra_nil)) rp_nil) (by rfl) (by rfl) (fun z => by cases z) (by decide)) ra_nil)))))))) rss_nil)
      (rss_one (rs_ret (re_callN C (ok__law_pick T) (by omega) (by rfl) T.g__law_pick T.F__law_pick.kp (bi__law_pick T) (ra_cons (re_var 0) (ra_cons (re_var 2) ra_nil))))))))
theorem ok__law_is_int (T : Tx G mg) : FnG G P w mg base 1 T.a__law_is_int T.d__law_is_int ps__law_is_int sp__law_is_int :=
  fn_g (k := 0) T.F__law_is_int sc__law_is_int mon__law_is_int len__law_is_int (fun cdv A outer s H E C =>
    (rss_one (rs_ret (re_and (re_callB (cl_isi (by rfl)) (by rfl) T.b_isinstance bo_isinstance (ra_cons (re_var 0) (ra_cons (re_ty (by rfl) T.b_int bo_int) ra_nil))) (re_one (re_not (re_callB (cl_isi (by rfl)) (by rfl) T.b_isinstance bo_isinstance (ra_cons (re_var 0) (ra_cons (re_ty (by rfl) T.b_bool bo_bool) ra_nil))))))))) pur__law_is_int
theorem ok__law_is_word (T : Tx G mg) : FnG G P w mg base 1 T.a__law_is_word T.d__law_is_word ps__law_is_word sp__law_is_word :=
  fn_g (k := 0) T.F__law_is_word sc__law_is_word mon__law_is_word len__law_is_word (fun cdv A outer s H E C =>
    (rss_cons (rs_if (rw_or (rt_not (rt_val (re_callB (cl_isi (by rfl)) (by rfl) T.b_isinstance bo_isinstance (ra_cons (re_var 0) (ra_cons (re_ty (by rfl) T.b_str bo_str) ra_nil))))) (rw_or1 (rt_not (rt_chain ol_le ol_le re_int (re_callB (cl_len (by rfl)) (by rfl) T.b_len bo_len (ra_cons (re_var 0) ra_nil)) re_int)))).rt (rss_one (rs_ret re_bl)) rss_nil)
      (rss_one (rs_ret (re_cmp (ol_eq (by rfl) C.hu) (re_lc (own := [((Str.ofString "_law_sign"), 1)]) (T := (.nm 1)) (by rfl) (by rfl) sc__law_is_word.nd (ri_seq (by rfl) (re_var 0)) (blkOk_by (own := [((Str.ofString "_law_sign"), 1)]) (N := N__law_is_word) (sc := defScope s__law_is_word) (by decide +kernel)) (by decide) (fun s1 H1 a1 cl1 fp1 => (pg_name (i := 1) sc__law_is_word.nd (by rfl) (Or.inl (by rfl)))) (fun s1 H1 a1 cl1 fp1 => (rts_one (rt_cmp ol_notInS (re_var 1) re_str (by rfl)))) (fun s1 H1 a1 cl1 fp1 => (re_var 1))) (re_lst ra_nil) (nomark _)))))) pur__law_is_word
theorem ok__law_word (T : Tx G mg) : FnG G P w mg base 3 T.a__law_word T.d__law_word ps__law_word sp__law_word :=
  fn_g (k := 2) T.F__law_word sc__law_word mon__law_word len__law_word (fun cdv A outer s H E C =>
    (rss_cons (rs_set (i := 1) sc__law_word.nd (by rfl) (Or.inl (by rfl)) re_str)
      (rss_cons (rs_set (i := 2) sc__law_word.nd (by rfl) (Or.inl (by rfl)) (re_join (by rfl) re_str (re_lc (own := [((Str.ofString "_law_k"), 3)]) (T := (.nm 3)) (by rfl) (by rfl) sc__law_word.nd (ri_range1 (by rfl) T.b_range (re_callN C (ok__law_draw T) (by decide) (by rfl) T.g__law_draw T.F__law_draw.kp (bi__law_draw T) (ra_cons (re_var 0) (ra_cons re_int ra_nil)))) (blkOk_by (own := [((Str.ofString "_law_k"), 3)]) (N := N__law_word) (sc := defScope s__law_word) (by decide +kernel)) (by decide) (fun s1 H1 a1 cl1 fp1 => (pg_name (i := 3) sc__law_word.nd (by rfl) (Or.inl (by rfl)))) (fun s1 H1 a1 cl1 fp1 => rts_nil) (fun s1 H1 a1 cl1 fp1 => have C1 := C.blk s1 H1 _ _ fp1; (re_callN C1 (ok__law_pick T) (by decide) (by rfl) T.g__law_pick T.F__law_pick.kp (bi__law_pick T) (ra_cons (re_var 0) (ra_cons re_str ra_nil)))))))
      (rss_cons (rs_set (i := 3) sc__law_word.nd (by rfl) (Or.inl (by rfl)) (re_callN C (ok__law_draw T) (by decide) (by rfl) T.g__law_draw T.F__law_draw.kp (bi__law_draw T) (ra_cons (re_var 0) (ra_cons (re_bin (ol_add (by rfl)) (re_callB (cl_len (by rfl)) (by rfl) T.b_len bo_len (ra_cons (re_var 2) ra_nil)) re_int) ra_nil))))
      (rss_cons (rs_set (i := 4) sc__law_word.nd (by rfl) (Or.inl (by rfl)) (re_callN C (ok__law_pick T) (by decide) (by rfl) T.g__law_pick T.F__law_pick.kp (bi__law_pick T) (ra_cons (re_var 0) (ra_cons (re_var 1) ra_nil))))
      (rss_one (rs_ret (re_callN C (ok__law_pick T) (by decide) (by rfl) T.g__law_pick T.F__law_pick.kp (bi__law_pick T) (ra_cons (re_var 0) (ra_cons (re_lst (ra_cons (re_var 2) (ra_cons (re_var 2) (ra_cons (re_bin (ol_add (by rfl)) (re_bin (ol_add (by rfl)) (re_slice (by rfl) (re_var 2) ro_none (ro_some (re_var 3))) (re_var 4)) (re_slice (by rfl) (re_var 2) (ro_some (re_var 3)) ro_none)) (ra_cons (re_bin (ol_add (by rfl)) (re_bin (ol_add (by rfl)) (re_slice (by rfl) (re_var 2) ro_none (ro_some (re_var 3))) (re_var 4)) (re_slice (by rfl) (re_var 2) (ro_some (re_bin (ol_add (by rfl)) (re_var 3) re_int)) ro_none)) ra_nil))))) ra_nil)))))))))) pur__law_word
theorem ok_law (T : Tx G mg) : FnG G P w mg base 7 T.a_law T.d_law ps_law sp_law :=
  fn_g (k := 6) T.F_law sc_law mon_law len_law (fun cdv A outer s H E C =>
    (rss_cons (rs_set (i := 1) sc_law.nd (by rfl) (Or.inl (by rfl)) (re_callN C (ok__law_feed T) (by decide) (by rfl) T.g__law_feed T.F__law_feed.kp (bi__law_feed T) (ra_cons (re_var 0) ra_nil)))
      (rss_cons (rs_for (T := (.nm 2)) (by rfl) (passes_of rfl) (by rfl) (ri_range1 (by rfl) T.b_range (re_bin (ol_add (by rfl)) re_int (re_callB (cl_min2 (by rfl)) (by rfl) T.b_min bo_min (ra_cons re_int (ra_cons (re_callB (cl_len (by rfl)) (by rfl) T.b_len bo_len (ra_cons (re_var 0) ra_nil)) ra_nil))))) (pg_name (i := 2) sc_law.nd (by rfl) (Or.inl (by rfl))) (rss_cons (rs_set (i := 3) sc_law.nd (by rfl) (Or.inl (by rfl)) (re_bin ol_mul (re_callN C (ok__law_draw T) (by decide) (by rfl) T.g__law_draw T.F__law_draw.kp (bi__law_draw T) (ra_cons (re_var 1) (ra_cons (re_bin ol_pow re_int re_int) ra_nil))) (re_callN C (ok__law_pick T) (by decide) (by rfl) T.g__law_pick T.F__law_pick.kp (bi__law_pick T) (ra_cons (re_var 1) (ra_cons (re_lst (ra_cons re_int (ra_cons (re_un ul_neg re_int) (ra_cons (re_bin ol_pow re_int re_int) (ra_cons (re_bin ol_pow re_int re_int) (ra_cons (re_bin ol_sub re_int (re_bin ol_pow re_int re_int)) ra_nil)))))) ra_nil)))))
      (rss_one (rs_for (T := (.nm 4)) (by rfl) (passes_of rfl) (by rfl) (ri_seq (by rfl) (re_lst (ra_cons (re_callN C (ok__law_word T) (by decide) (by rfl) T.g__law_word T.F__law_word.kp (bi__law_word T) (ra_cons (re_var 1) ra_nil)) (ra_cons (re_callN C (ok__law_word T) (by decide) (by rfl) T.g__law_word T.F__law_word.kp (bi__law_word T) (ra_cons (re_var 1) ra_nil)) (ra_cons (re_callN C (ok__law_any T 3) (by decide) (by rfl) T.g__law_any T.F__law_any.kp (bi__law_any T) (ra_cons (re_var 1) (ra_cons re_int ra_nil))) (ra_cons (re_var 3) ra_nil)))))) (pg_name (i := 4) sc_law.nd (by rfl) (Or.inl (by rfl))) (rss_one (rs_if (rw_or (rt_cmp (ol_ne (by rfl) C.hu) (re_callB cl_reprB (by rfl) T.b_repr bo_repr (ra_cons (re_callN C (ok_is_name T) (by decide) (by rfl) T.g_is_name T.F_is_name.kp (bi_is_name T) (ra_cons (re_var 4) ra_nil)) ra_nil)) (re_callB cl_reprB (by rfl) T.b_repr bo_repr (ra_cons (re_callN C (ok__law_is_word T) (by decide) (by rfl) T.g__law_is_word T.F__law_is_word.kp (bi__law_is_word T) (ra_cons (re_var 4) ra_nil)) ra_nil)) (nomark _)) (rw_or1 (rt_cmp (ol_ne (by rfl) C.hu) (re_callB cl_reprB (by rfl) T.b_repr bo_repr (ra_cons (re_callN C (ok_is_level T) (by decide) (by rfl) T.g_is_level T.F_is_level.kp (bi_is_level T) (ra_cons (re_var 4) ra_nil)) ra_nil)) (re_callB cl_reprB (by rfl) T.b_repr bo_repr (ra_cons (re_callN C (ok__law_is_int T) (by decide) (by rfl) T.g__law_is_int T.F__law_is_int.kp (bi__law_is_int T) (ra_cons (re_var 4) ra_nil)) ra_nil)) (nomark _)))).rt (rss_one (rs_ret re_bl)) rss_nil))))))
      (rss_one (rs_ret (re_and (re_cmp ol_isN (re_callK0 (ks := [(Str.ofString "value")]) (g := fun ws => ws) (gV := fun ws => ws) C (ok_is_name T) (by decide) (by rfl) T.g_is_name T.F_is_name.kp (kb_is_name T) (fun _ h => h) (fun h => h) (fun _ _ _ h => h) (rk_cons re_str rk_nil)) re_bl (nomark _)) (re_one (re_cmp ol_isN (re_callK0 (ks := [(Str.ofString "value")]) (g := fun ws => ws) (gV := fun ws => ws) C (ok_is_level T) (by decide) (by rfl) T.g_is_level T.F_is_level.kp (kb_is_level T) (fun _ h => h) (fun h => h) (fun _ _ _ h => h) (rk_cons re_bl rk_nil)) re_bl (nomark _))))))))) pur_law
end
def dd_is_name : He.DefD := ⟨((Str.ofString "is_name"), none), (Str.ofString "is_name"), (Str.ofString "is_name"), defArgs s_is_name, defBody s_is_name, defScope s_is_name, [], []⟩
def dd_is_level : He.DefD := ⟨((Str.ofString "is_level"), none), (Str.ofString "is_level"), (Str.ofString "is_level"), defArgs s_is_level, defBody s_is_level, defScope s_is_level, [], []⟩
def dd__law_feed : He.DefD := ⟨((Str.ofString "_law_feed"), none), (Str.ofString "_law_feed"), (Str.ofString "_law_feed"), defArgs s__law_feed, defBody s__law_feed, defScope s__law_feed, [], []⟩
def dd__law_draw : He.DefD := ⟨((Str.ofString "_law_draw"), none), (Str.ofString "_law_draw"), (Str.ofString "_law_draw"), defArgs s__law_draw, defBody s__law_draw, defScope s__law_draw, [], []⟩
def dd__law_pick : He.DefD := ⟨((Str.ofString "_law_pick"), none), (Str.ofString "_law_pick"), (Str.ofString "_law_pick"), defArgs s__law_pick, defBody s__law_pick, defScope s__law_pick, [], []⟩
def dd__law_any : He.DefD := ⟨((Str.ofString "_law_any"), none), (Str.ofString "_law_any"), (Str.ofString "_law_any"), defArgs s__law_any, defBody s__law_any, defScope s__law_any, [], []⟩
def dd__law_is_int : He.DefD := ⟨((Str.ofString "_law_is_int"), none), (Str.ofString "_law_is_int"), (Str.ofString "_law_is_int"), defArgs s__law_is_int, defBody s__law_is_int, defScope s__law_is_int, [], []⟩
def dd__law_is_word : He.DefD := ⟨((Str.ofString "_law_is_word"), none), (Str.ofString "_law_is_word"), (Str.ofString "_law_is_word"), defArgs s__law_is_word, defBody s__law_is_word, defScope s__law_is_word, [], []⟩
def dd__law_word : He.DefD := ⟨((Str.ofString "_law_word"), none), (Str.ofString "_law_word"), (Str.ofString "_law_word"), defArgs s__law_word, defBody s__law_word, defScope s__law_word, [], []⟩
def dd_law : He.DefD := ⟨((Str.ofString "law"), none), (Str.ofString "law"), (Str.ofString "law"), defArgs s_law, defBody s_law, defScope s_law, [], []⟩
def fn : List He.DefD := [dd_is_name, dd_is_level, dd__law_feed, dd__law_draw, dd__law_pick, dd__law_any, dd__law_is_int, dd__law_is_word, dd__law_word, dd_law]
def fa : List He.Fa := [.glo (Str.ofString "is_name"), .glo (Str.ofString "is_level"), .glo (Str.ofString "_law_feed"), .glo (Str.ofString "_law_draw"), .glo (Str.ofString "_law_pick"), .glo (Str.ofString "_law_any"), .glo (Str.ofString "_law_is_int"), .glo (Str.ofString "_law_is_word"), .glo (Str.ofString "_law_word"), .glo (Str.ofString "law"), .free (Str.ofString "abs"), .free (Str.ofString "all"), .free (Str.ofString "bool"), .free (Str.ofString "int"), .free (Str.ofString "isinstance"), .free (Str.ofString "len"), .free (Str.ofString "list"), .free (Str.ofString "min"), .free (Str.ofString "range"), .free (Str.ofString "repr"), .free (Str.ofString "str"), .free (Str.ofString "tuple"), .str (Str.ofString "LETTERS") (Str.ofString "abcdefghijklmnopqrstuvwxyz"), .int (Str.ofString "LONGEST_NAME") 8]
abbrev R : PySem.W.OpenRow := PySem.W.OpenLaw.row PySem.Challenge.rw_rockbeds_k02_names_and_levels
abbrev hk : PySem.W.Hook := He.hookD 4 fa fn
def ob (s : PySem.W.SharedT) : He.AlD := He.obsDG 4 fa fn (HandSHeadRun.getT s)
theorem ob_eq (s : PySem.W.SharedT) : ob s = hk.obs s.abs := He.obsDG_eq (HandSHeadRun.getT_eq s)
def loose : List Str := ([(Str.ofString "LETTERS"), (Str.ofString "LONGEST_NAME"), (Str.ofString "is_name"), (Str.ofString "is_level"), (Str.ofString "_law_feed"), (Str.ofString "_law_draw"), (Str.ofString "_law_pick"), (Str.ofString "_law_any"), (Str.ofString "_law_is_int"), (Str.ofString "_law_is_word"), (Str.ofString "_law_word")] : List Str)
theorem run (w : World) : HandSHeadRun.RunEq R (PySem.W.view R.prog [13]) hk ob 1000 loose w := by
  intro os
  kernel_rfl
theorem facts {P : Program} {w : World} {K : PySem.W.Frag} {h : Heap} {mg : Str → Option Value} {f : Addr} (X : K.In h) (G : h.Ns mainGlobals mg) (hfa : mg (Str.ofString "law") = some (.ref f)) (c : He.SaysD fa fn K) :
    ∃ (G : Glob) (fd : FuncData), G.K = K ∧ (∀ (s : Shared) (v : Value), BindsTo s fd ⟨[v], []⟩ [((Str.ofString "_law_script"), v)]) ∧ ∀ base : Heap, K.In base → base.Ns mainGlobals mg → FnG G P w mg base 7 f fd ps_law sp_law := by
  obtain ⟨d_is_name, F_is_name⟩ := c.def_ 0 (d := dd_is_name) rfl
  obtain ⟨d_is_level, F_is_level⟩ := c.def_ 1 (d := dd_is_level) rfl
  obtain ⟨d__law_feed, F__law_feed⟩ := c.def_ 2 (d := dd__law_feed) rfl
  obtain ⟨d__law_draw, F__law_draw⟩ := c.def_ 3 (d := dd__law_draw) rfl
  obtain ⟨d__law_pick, F__law_pick⟩ := c.def_ 4 (d := dd__law_pick) rfl
  obtain ⟨d__law_any, F__law_any⟩ := c.def_ 5 (d := dd__law_any) rfl
  obtain ⟨d__law_is_int, F__law_is_int⟩ := c.def_ 6 (d := dd__law_is_int) rfl
  obtain ⟨d__law_is_word, F__law_is_word⟩ := c.def_ 7 (d := dd__law_is_word) rfl
  obtain ⟨d__law_word, F__law_word⟩ := c.def_ 8 (d := dd__law_word) rfl
  obtain ⟨d_law, F_law⟩ := c.def_ 9 (d := dd_law) rfl
  have T : Tx ⟨K, fun _ => none⟩ mg := ⟨_, d_is_name, F_is_name, He.glo_ok X G (c.fact 0 (f := .glo (Str.ofString "is_name")) rfl), _, d_is_level, F_is_level, He.glo_ok X G (c.fact 1 (f := .glo (Str.ofString "is_level")) rfl), _, d__law_feed, F__law_feed, He.glo_ok X G (c.fact 2 (f := .glo (Str.ofString "_law_feed")) rfl), _, d__law_draw, F__law_draw, He.glo_ok X G (c.fact 3 (f := .glo (Str.ofString "_law_draw")) rfl), _, d__law_pick, F__law_pick, He.glo_ok X G (c.fact 4 (f := .glo (Str.ofString "_law_pick")) rfl), _, d__law_any, F__law_any, He.glo_ok X G (c.fact 5 (f := .glo (Str.ofString "_law_any")) rfl), _, d__law_is_int, F__law_is_int, He.glo_ok X G (c.fact 6 (f := .glo (Str.ofString "_law_is_int")) rfl), _, d__law_is_word, F__law_is_word, He.glo_ok X G (c.fact 7 (f := .glo (Str.ofString "_law_is_word")) rfl), _, d__law_word, F__law_word, He.glo_ok X G (c.fact 8 (f := .glo (Str.ofString "_law_word")) rfl), _, d_law, F_law, He.glo_ok X G (c.fact 9 (f := .glo (Str.ofString "law")) rfl), He.free_ok X G (c.fact 10 (f := .free (Str.ofString "abs")) rfl), He.free_ok X G (c.fact 11 (f := .free (Str.ofString "all")) rfl), He.free_ok X G (c.fact 12 (f := .free (Str.ofString "bool")) rfl), He.free_ok X G (c.fact 13 (f := .free (Str.ofString "int")) rfl), He.free_ok X G (c.fact 14 (f := .free (Str.ofString "isinstance")) rfl), He.free_ok X G (c.fact 15 (f := .free (Str.ofString "len")) rfl), He.free_ok X G (c.fact 16 (f := .free (Str.ofString "list")) rfl), He.free_ok X G (c.fact 17 (f := .free (Str.ofString "min")) rfl), He.free_ok X G (c.fact 18 (f := .free (Str.ofString "range")) rfl), He.free_ok X G (c.fact 19 (f := .free (Str.ofString "repr")) rfl), He.free_ok X G (c.fact 20 (f := .free (Str.ofString "str")) rfl), He.free_ok X G (c.fact 21 (f := .free (Str.ofString "tuple")) rfl), He.str_ok X G (c.fact 22 rfl), He.int_ok X G (c.fact 23 rfl)⟩
  have e := hfa.symm.trans T.g_law
  cases e
  have b := FunD.bindsA (ps := ps_law) T.F_law fun _ _ _ _ _ _ us hl => match us, hl with | [_], _ => rfl
  exact ⟨⟨K, fun _ => none⟩, T.d_law, rfl, fun s v => b s [v] rfl, fun base _ _ => ok_law T⟩
end RB
open PySem PySem.W PySem.Calls PyProof.Rows
set_option maxRecDepth 100000 in
set_option maxHeartbeats 0 in
theorem PySem.Challenge.cw_rockbeds_k02_names_and_levels_holds : PySem.Challenge.rw_rockbeds_k02_names_and_levels.Holds := by
  w_on; o_law
  refine HandSHeadRun.head_any (r := OpenLaw.row PySem.Challenge.rw_rockbeds_k02_names_and_levels) (q := view (OpenLaw.row PySem.Challenge.rw_rockbeds_k02_names_and_levels).prog [13]) (H := RB.hk) (ob := RB.ob) (M := 1000) (loose := RB.loose) (d := HandSHeadRun.topDef (OpenLaw.row PySem.Challenge.rw_rockbeds_k02_names_and_levels).prog 13) (kwd := []) RB.ob_eq
    (by kernel_rfl) (fun s => by kernel_rfl) RB.run (by kernel_rfl) (by kernel_rfl) (by kernel_rfl) (by rfl) (by first | assumption | decide +kernel) (by decide +kernel) ⟨rfl, rfl, rfl, rfl, rfl, by decide +kernel⟩ ?hw ?hc
  case hw => w_witness2
  case hc =>
    refine RB.walk_g (l := PySem.Challenge.rw_rockbeds_k02_names_and_levels) (n := 63) (k := 7) (x := (PySem.Str.ofString "_law_script")) rfl (by decide) (by kernel_rfl) ⟨rfl, by decide, by decide⟩ ?F
    intro w mg fa h Y G hmg0
    obtain ⟨K, KX, c⟩ := Y
    have hmg : mg (PySem.Str.ofString "law") = some (.ref fa) := by
      have e : (HandSHeadRun.topDef (OpenLaw.row PySem.Challenge.rw_rockbeds_k02_names_and_levels).prog 13).name = (PySem.Str.ofString "law") := by kernel_rfl
      rw [← e]
      exact hmg0
    obtain ⟨Gb, fd, hK, hb, hF⟩ := RB.facts (P := (PySem.Challenge.rw_rockbeds_k02_names_and_levels).prog) (w := w) KX G hmg c
    subst hK
    exact ⟨Gb, fd, RB.sp_law, KX, hb, fun ns hl => RB.law_true ns hl, hF⟩
