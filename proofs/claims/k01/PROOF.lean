import PyProof.Rows.All
import Wide.All
import OpenK.AllK
import Wide.FinOn
import HandS.ForMost
import HandS.Exc
import HandS.Lambda
import HandS.WordsExc
import HandS.Defaults
import HandS.CallLocal
import HandS.Wide
import HandS.TupAny
import HandS.IsInst
import HandS.Style
import HandS.Deep
import HandS.ExcInit
import HandS.ExcSuper
import HandS.Nested
import KE.KSuper
import HandS.ExcIs
import HandS.ExcField
import HandS.TryMany
import HandS.Zip0
import HandS.Iter
import HandS.OwnIter
import KE.KDictZip
import HandS.DictComp
import PyProof.NeKinds
import HandS.EndOwn
import PySem.Challenge.RW_everyboxout_k01_fractions_and_names
import HandS.Codes
set_option Elab.async false
set_option linter.all false
set_option maxRecDepth 100000
set_option maxHeartbeats 2000000
/-! Sim, part A: data as trees, cells of what changes, how they stand in the abstract heap. -/
namespace Sim
open PySem PySem.Spec PyProof.Rows L2

/-- a value told as a whole: what never changes is a tree, what may change is the number of its cell -/
inductive D where
  | non | bl (b : Bool) | int (i : Int) | str (x : Str)
  | tup (ds : List D) | lst (ds : List D) | dct (ks : List Key) (ds : List D)
  | loc (n : Nat) | fn (a : Addr) | ty (n : String)
/-- what a cell holds -/
inductive Cell where
  | lst (ds : List D) | dic (ks : List Key) (ds : List D) | gone

mutual
def Rep (K : PySem.W.Frag) (F : Hp) (m : List Addr) : D → V → Prop
  | .non, v => v = .non
  | .bl b, v => v = .bl b
  | .int i, v => v = .int i
  | .str x, v => v = .str x
  | .tup ds, v => ∃ a vs, v = .ref a ∧ SqT K F a vs ∧ RepL K F m ds vs
  | .lst ds, v => ∃ a vs, v = .ref a ∧ SqL K F a vs ∧ RepL K F m ds vs
  | .dct ks ds, v => ∃ a vs, v = .ref a ∧ Rd F a (.dK (ks.zip vs)) ∧ ks.length = vs.length ∧ RepL K F m ds vs
  | .loc n, v => ∃ a, v = .ref a ∧ m[n]? = some a
  | .fn a, v => v = .ref a
  | .ty n, v => v = .ty n
def RepL (K : PySem.W.Frag) (F : Hp) (m : List Addr) : List D → List V → Prop
  | [], vs => vs = []
  | d :: ds, vs => ∃ v r, vs = v :: r ∧ Rep K F m d v ∧ RepL K F m ds r
end

section
variable {K : PySem.W.Frag} {F F' H H' : Hp} {m m' : List Addr}
/-- the heap of what stays has grown -/
def Sub (F F' : Hp) : Prop := ∀ a o, F a = some o → F' a = some o
theorem Sub.refl (F : Hp) : Sub F F := fun _ _ h => h
theorem Sub.trans {F F' F'' : Hp} (h : Sub F F') (h' : Sub F' F'') : Sub F F'' := fun a o e => h' a o (h a o e)
theorem Sub.new {F : Hp} {p : Addr} {o : HO} (h : F p = none) : Sub F (upd F p o) := fun a u e => by
  rw [upd_ne (ne_of_none e h)]; exact e
theorem Sub.rd {a : Addr} {u : HO} (h : Sub F F') (r : Rd F a u) : Rd F' a u := by
  rcases r with r | ⟨o, r⟩
  · exact .inl (h _ _ r)
  · exact .inr ⟨o, h _ _ r⟩
theorem Sub.sqt {a : Addr} {xs : List V} (h : Sub F F') (r : SqT K F a xs) : SqT K F' a xs := by
  rcases r with r | r
  · exact .inl (h.rd r)
  · exact .inr r
theorem Sub.sql {a : Addr} {xs : List V} (h : Sub F F') (r : SqL K F a xs) : SqL K F' a xs := by
  rcases r with r | r
  · exact .inl (h.rd r)
  · exact .inr r
/-- m' goes on from m -/
def Pre (m m' : List Addr) : Prop := ∀ (n : Nat) (a : Addr), m[n]? = some a → m'[n]? = some a
theorem Pre.refl (m : List Addr) : Pre m m := fun _ _ h => h
theorem Pre.trans {m m' m'' : List Addr} (h : Pre m m') (h' : Pre m' m'') : Pre m m'' := fun n a e => h' n a (h n a e)
theorem Pre.app (m r : List Addr) : Pre m (m ++ r) := fun n a e => by
  rw [List.getElem?_append_left (List.getElem?_eq_some_iff.mp e).1]; exact e

mutual
theorem Rep.mono (hF : Sub F F') (hm : Pre m m') : ∀ (d : D) (v : V), Rep K F m d v → Rep K F' m' d v
  | .non, _, h => by simpa only [Rep] using h
  | .bl _, _, h => by simpa only [Rep] using h
  | .int _, _, h => by simpa only [Rep] using h
  | .str _, _, h => by simpa only [Rep] using h
  | .fn _, _, h => by simpa only [Rep] using h
  | .ty _, _, h => by simpa only [Rep] using h
  | .tup ds, v, h => by
    simp only [Rep] at h ⊢
    obtain ⟨a, vs, e, s, r⟩ := h
    exact ⟨a, vs, e, hF.sqt s, RepL.mono hF hm ds vs r⟩
  | .lst ds, v, h => by
    simp only [Rep] at h ⊢
    obtain ⟨a, vs, e, s, r⟩ := h
    exact ⟨a, vs, e, hF.sql s, RepL.mono hF hm ds vs r⟩
  | .dct ks ds, v, h => by
    simp only [Rep] at h ⊢
    obtain ⟨a, vs, e, s, l, r⟩ := h
    exact ⟨a, vs, e, hF.rd s, l, RepL.mono hF hm ds vs r⟩
  | .loc n, v, h => by
    simp only [Rep] at h ⊢
    obtain ⟨a, e, q⟩ := h
    exact ⟨a, e, hm _ _ q⟩
theorem RepL.mono (hF : Sub F F') (hm : Pre m m') : ∀ (ds : List D) (vs : List V), RepL K F m ds vs → RepL K F' m' ds vs
  | [], vs, h => by simpa only [RepL] using h
  | d :: ds, vs, h => by
    simp only [RepL] at h ⊢
    obtain ⟨v, r, e, h1, h2⟩ := h
    exact ⟨v, r, e, Rep.mono hF hm d v h1, RepL.mono hF hm ds r h2⟩
end

theorem RepL.length : ∀ {ds : List D} {vs : List V}, RepL K F m ds vs → ds.length = vs.length
  | [], vs, h => by simp only [RepL] at h; subst h; rfl
  | d :: ds, vs, h => by
    simp only [RepL] at h
    obtain ⟨v, r, e, h1, h2⟩ := h
    rw [e, List.length_cons, List.length_cons, RepL.length h2]
theorem RepL.get : ∀ {ds : List D} {vs : List V} {i : Nat} {d : D}, RepL K F m ds vs → ds[i]? = some d → ∃ v, vs[i]? = some v ∧ Rep K F m d v
  | [], vs, i, d, h, e => by simp at e
  | d₀ :: ds, vs, 0, d, h, e => by
    simp only [RepL] at h
    obtain ⟨v, r, e1, h1, h2⟩ := h
    simp at e
    subst e e1
    exact ⟨v, rfl, h1⟩
  | d₀ :: ds, vs, i + 1, d, h, e => by
    simp only [RepL] at h
    obtain ⟨v, r, e1, h1, h2⟩ := h
    simp at e
    obtain ⟨u, e2, h3⟩ := RepL.get h2 e
    subst e1
    exact ⟨u, by simpa using e2, h3⟩
theorem RepL.getV : ∀ {ds : List D} {vs : List V} {i : Nat} {v : V}, RepL K F m ds vs → vs[i]? = some v → ∃ d, ds[i]? = some d ∧ Rep K F m d v
  | [], vs, i, v, h, e => by simp only [RepL] at h; subst h; simp at e
  | d₀ :: ds, vs, 0, v, h, e => by
    simp only [RepL] at h
    obtain ⟨v', r, e1, h1, h2⟩ := h
    subst e1
    simp at e
    subst e
    exact ⟨d₀, rfl, h1⟩
  | d₀ :: ds, vs, i + 1, v, h, e => by
    simp only [RepL] at h
    obtain ⟨v', r, e1, h1, h2⟩ := h
    subst e1
    simp at e
    obtain ⟨u, e2, h3⟩ := RepL.getV h2 e
    exact ⟨u, by simpa using e2, h3⟩
theorem RepL.nil : RepL K F m [] [] := by simp only [RepL]
theorem RepL.cons {d : D} {v : V} {ds : List D} {vs : List V} (h : Rep K F m d v) (r : RepL K F m ds vs) : RepL K F m (d :: ds) (v :: vs) := by
  simp only [RepL]
  exact ⟨v, vs, rfl, h, r⟩
theorem RepL.of_cons {d : D} {v : V} {ds : List D} {vs : List V} (h : RepL K F m (d :: ds) (v :: vs)) : Rep K F m d v ∧ RepL K F m ds vs := by
  simp only [RepL] at h
  obtain ⟨v', r, e, h1, h2⟩ := h
  cases e
  exact ⟨h1, h2⟩
theorem RepL.app : ∀ {ds es : List D} {vs us : List V}, RepL K F m ds vs → RepL K F m es us → RepL K F m (ds ++ es) (vs ++ us)
  | [], es, vs, us, h, r => by simp only [RepL] at h; subst h; exact r
  | d :: ds, es, vs, us, h, r => by
    simp only [RepL] at h
    obtain ⟨v, w, e, h1, h2⟩ := h
    subst e
    exact .cons h1 (RepL.app h2 r)
theorem RepL.take : ∀ {ds : List D} {vs : List V} (n : Nat), RepL K F m ds vs → RepL K F m (ds.take n) (vs.take n)
  | _, _, 0, _ => by simpa using RepL.nil
  | [], vs, n + 1, h => by simp only [RepL] at h; subst h; exact .nil
  | d :: ds, vs, n + 1, h => by
    simp only [RepL] at h
    obtain ⟨v, w, e, h1, h2⟩ := h
    subst e
    exact .cons h1 (RepL.take n h2)
theorem RepL.drop : ∀ {ds : List D} {vs : List V} (n : Nat), RepL K F m ds vs → RepL K F m (ds.drop n) (vs.drop n)
  | _, _, 0, h => h
  | [], vs, n + 1, h => by simp only [RepL] at h; subst h; exact .nil
  | d :: ds, vs, n + 1, h => by
    simp only [RepL] at h
    obtain ⟨v, w, e, h1, h2⟩ := h
    subst e
    exact RepL.drop n h2
theorem RepL.set : ∀ {ds : List D} {vs : List V} (n : Nat) {d : D} {v : V}, RepL K F m ds vs → Rep K F m d v → RepL K F m (ds.set n d) (vs.set n v)
  | [], vs, n, d, v, h, r => by simp only [RepL] at h; subst h; exact .nil
  | d₀ :: ds, vs, 0, d, v, h, r => by
    simp only [RepL] at h
    obtain ⟨v', w, e, h1, h2⟩ := h
    subst e
    exact .cons r h2
  | d₀ :: ds, vs, n + 1, d, v, h, r => by
    simp only [RepL] at h
    obtain ⟨v', w, e, h1, h2⟩ := h
    subst e
    exact .cons h1 (RepL.set n h2 r)
theorem RepL.rev {ds : List D} : ∀ {vs : List V}, RepL K F m ds vs → RepL K F m ds.reverse vs.reverse := by
  induction ds with
  | nil => intro vs h; simp only [RepL] at h; subst h; exact .nil
  | cons d ds ih =>
    intro vs h
    simp only [RepL] at h
    obtain ⟨v', w, e, h1, h2⟩ := h
    subst e
    rw [List.reverse_cons, List.reverse_cons]
    exact (ih h2).app (.cons h1 .nil)
theorem RepL.dropLast {ds : List D} {vs : List V} (h : RepL K F m ds vs) : RepL K F m ds.dropLast vs.dropLast := by
  rw [List.dropLast_eq_take, List.dropLast_eq_take, ← h.length]
  exact h.take _
theorem RepL.ints (ns : List Int) : RepL K F m (ns.map D.int) (ns.map V.int) := by
  induction ns with
  | nil => exact .nil
  | cons n ns ih => exact .cons (by simp only [Rep]) ih
theorem RepL.vints {ns : List Int} {vs : List V} (h : RepL K F m (ns.map D.int) vs) : vs = ns.map V.int := by
  induction ns generalizing vs with
  | nil => simpa only [RepL, List.map] using h
  | cons n ns ih =>
    simp only [RepL, List.map] at h ⊢
    obtain ⟨v, w, e, h1, h2⟩ := h
    simp only [Rep] at h1
    rw [e, h1, ih h2]
theorem RepL.vstrs {ns : List Str} {vs : List V} (h : RepL K F m (ns.map D.str) vs) : vs = ns.map V.str := by
  induction ns generalizing vs with
  | nil => simpa only [RepL, List.map] using h
  | cons n ns ih =>
    simp only [RepL, List.map] at h ⊢
    obtain ⟨v, w, e, h1, h2⟩ := h
    simp only [Rep] at h1
    rw [e, h1, ih h2]
theorem RepL.vbls {ns : List Bool} {vs : List V} (h : RepL K F m (ns.map D.bl) vs) : vs = ns.map V.bl := by
  induction ns generalizing vs with
  | nil => simpa only [RepL, List.map] using h
  | cons n ns ih =>
    simp only [RepL, List.map] at h ⊢
    obtain ⟨v, w, e, h1, h2⟩ := h
    simp only [Rep] at h1
    rw [e, h1, ih h2]

/-- a cell as it stands at a -/
def CellOk (K : PySem.W.Frag) (F : Hp) (m : List Addr) (H : Hp) (a : Addr) : Cell → Prop
  | .lst ds => F a = none ∧ ∃ vs, H a = some (.lst vs) ∧ RepL K F m ds vs
  | .dic ks ds => F a = none ∧ ∃ vs, H a = some (.dK (ks.zip vs)) ∧ ks.length = vs.length ∧ RepL K F m ds vs
  | .gone => True
/-- what a cell's object may be -/
def CellHO : HO → Prop
  | .lst _ => True | .dK _ => True | .dT _ => True | .set _ _ => True | _ => False
theorem CellHO.nt {o : HO} (h : CellHO o) (ps : Array Value) : o ≠ .tbl ps := fun z => by subst z; exact h
theorem CellHO.nc {o : HO} (h : CellHO o) (c : Addr) (q : Str) : o ≠ LamX.CodeO c q := fun z => by
  unfold LamX.CodeO at z
  subst z; exact h
/-- the store: F what stays, m the cells' addresses, T the tables of code objects -/
structure Mem (K : PySem.W.Frag) (T : List (Addr × Str)) (F : Hp) (m : List Addr) (H : Hp) (cs : List Cell) : Prop where
  sub : Sub F H
  len : m.length = cs.length
  nd : m.Nodup
  cell : ∀ (n : Nat) (a : Addr) (c : Cell), m[n]? = some a → cs[n]? = some c → CellOk K F m H a c
  has : ∀ a ∈ m, ∃ o, H a = some o ∧ CellHO o
  nt : ∀ a ps, F a ≠ some (.tbl ps)
  tab : LamX.Tabs T H
/-- the store has gone on -/
structure Grow (F : Hp) (m : List Addr) (H : Hp) (F' : Hp) (m' : List Addr) (H' : Hp) : Prop where
  fro : Sub F F'
  pre : Pre m m'
  frame : ∀ a o, H a = some o → a ∉ m → (∀ ps, o ≠ .tbl ps) → H' a = some o
  new : ∀ a ∈ m', a ∈ m ∨ ∀ o, H a = some o → ∃ ps, o = .tbl ps
theorem none_new {a : Addr} (h : H a = none) : ∀ o, H a = some o → ∃ ps, o = .tbl ps := fun o e => by rw [h] at e; cases e
theorem Grow.refl : Grow F m H F m H := ⟨.refl _, .refl _, fun _ _ h _ _ => h, fun _ h => .inl h⟩
theorem Grow.trans {F1 F2 F3 H1 H2 H3 : Hp} {m1 m2 m3 : List Addr} (g : Grow F1 m1 H1 F2 m2 H2) (g' : Grow F2 m2 H2 F3 m3 H3) : Grow F1 m1 H1 F3 m3 H3 where
  fro := g.fro.trans g'.fro
  pre := g.pre.trans g'.pre
  frame := fun a o e n nt => g'.frame a o (g.frame a o e n nt) (fun q => (g.new a q).elim n fun z => let ⟨ps, z⟩ := z o e; nt ps z) nt
  new := fun a h => by
    rcases g'.new a h with q | q
    · exact g.new a q
    · by_cases hm : a ∈ m1
      · exact .inl hm
      · refine .inr fun o e => ?_
        by_cases ht : ∃ ps, o = .tbl ps
        · exact ht
        · exact q o (g.frame a o e hm fun ps z => ht ⟨ps, z⟩)
theorem Grow.rep {F1 F2 H1 H2 : Hp} {m1 m2 : List Addr} {d : D} {v : V} (g : Grow F1 m1 H1 F2 m2 H2) (h : Rep K F1 m1 d v) : Rep K F2 m2 d v := Rep.mono g.fro g.pre d v h
theorem Grow.repL {F1 F2 H1 H2 : Hp} {m1 m2 : List Addr} {d : List D} {v : List V} (g : Grow F1 m1 H1 F2 m2 H2) (h : RepL K F1 m1 d v) : RepL K F2 m2 d v := RepL.mono g.fro g.pre d v h

/-! ### how the store goes on -/
variable {T : List (Addr × Str)} {cs : List Cell} {p a : Addr} {o : HO} {c : Cell}
theorem CellOk.mono (hF : Sub F F') (hm : Pre m m') (hH : H' a = H a) (hn : F a = none → F' a = none) : ∀ {c : Cell}, CellOk K F m H a c → CellOk K F' m' H' a c
  | .lst ds, ⟨h1, vs, h2, h3⟩ => ⟨hn h1, vs, hH.trans h2, RepL.mono hF hm ds vs h3⟩
  | .dic ks ds, ⟨h1, vs, h2, h3, h4⟩ => ⟨hn h1, vs, hH.trans h2, h3, RepL.mono hF hm ds vs h4⟩
  | .gone, _ => trivial
theorem Mem.notIn (M : Mem K T F m H cs) (h : H p = none) : p ∉ m := fun q => by
  obtain ⟨o, e, _⟩ := M.has p q
  rw [h] at e; cases e
theorem Mem.noF (M : Mem K T F m H cs) (h : H p = none) : F p = none := by
  cases e : F p with
  | none => rfl
  | some o => rw [M.sub p o e] at h; cases h
/-- a new thing that never changes -/
theorem Mem.put (M : Mem K T F m H cs) (h : H p = none) (nt : ∀ ps, o ≠ .tbl ps) : Mem K T (upd F p o) m (upd H p o) cs where
  sub := fun a u e => by
    by_cases q : a = p
    · subst q; rw [upd_same] at e ⊢; exact e
    · rw [upd_ne q] at e ⊢; exact M.sub a u e
  len := M.len
  nd := M.nd
  cell := fun n a c h1 h2 => by
    have q : a ≠ p := fun z => M.notIn h (z ▸ List.mem_of_getElem? h1)
    exact (M.cell n a c h1 h2).mono (.new (M.noF h)) (.refl _) (upd_ne q) fun z => by rw [upd_ne q]; exact z
  has := fun a q => by
    have z : a ≠ p := fun z => M.notIn h (z ▸ q)
    rw [upd_ne z]; exact M.has a q
  nt := fun a ps e => by
    by_cases q : a = p
    · subst q; rw [upd_same] at e; exact nt ps (Option.some.inj e)
    · rw [upd_ne q] at e; exact M.nt a ps e
  tab := M.tab.ext fun b u e => by rw [upd_ne (ne_of_none e h)]; exact e
theorem Grow.put (hp : H p = none) (hF : F p = none) : Grow F m H (upd F p o) m (upd H p o) :=
  ⟨.new hF, .refl _, fun a u e _ _ => by rw [upd_ne (ne_of_none e hp)]; exact e, fun _ h => .inl h⟩
/-- something that is not ours is new -/
theorem Mem.other (M : Mem K T F m H cs) (h : H p = none) : Mem K T F m (upd H p o) cs where
  sub := fun a u e => by rw [upd_ne (ne_of_none (M.sub a u e) h)]; exact M.sub a u e
  len := M.len
  nd := M.nd
  cell := fun n a c h1 h2 => by
    have q : a ≠ p := fun z => M.notIn h (z ▸ List.mem_of_getElem? h1)
    exact (M.cell n a c h1 h2).mono (.refl _) (.refl _) (upd_ne q) id
  has := fun a q => by
    have z : a ≠ p := fun z => M.notIn h (z ▸ q)
    rw [upd_ne z]; exact M.has a q
  nt := M.nt
  tab := M.tab.ext fun b u e => by rw [upd_ne (ne_of_none e h)]; exact e
theorem Grow.other (hp : H p = none) : Grow F m H F m (upd H p o) :=
  ⟨.refl _, .refl _, fun a u e _ _ => by rw [upd_ne (ne_of_none e hp)]; exact e, fun _ h => .inl h⟩
/-- the tables go on -/
theorem Mem.ext {H1 : Hp} (M : Mem K T F m H cs) (e : LamX.ExtN H H1) (t : LamX.Tabs T H1) : Mem K T F m H1 cs where
  sub := fun a u q => e a u (M.sub a u q) fun ps z => M.nt a ps (by rw [q, z])
  len := M.len
  nd := M.nd
  cell := fun n a c h1 h2 => by
    obtain ⟨o, ho, hc⟩ := M.has a (List.mem_of_getElem? h1)
    exact (M.cell n a c h1 h2).mono (.refl _) (.refl _) ((e a o ho hc.nt).trans ho.symm) id
  has := fun a q => by
    obtain ⟨o, ho, hc⟩ := M.has a q
    exact ⟨o, e a o ho hc.nt, hc⟩
  nt := M.nt
  tab := t
theorem Grow.ext {H1 : Hp} (e : LamX.ExtN H H1) : Grow F m H F m H1 := ⟨.refl _, .refl _, fun a o q _ n => e a o q n, fun _ h => .inl h⟩
/-- a new cell -/
theorem Mem.alloc (M : Mem K T F m H cs) (h : H p = none) (nt : CellHO o) (hc : CellOk K F (m ++ [p]) (upd H p o) p c) : Mem K T F (m ++ [p]) (upd H p o) (cs ++ [c]) where
  sub := fun a u e => by
    by_cases q : a = p
    · subst q; rw [M.noF h] at e; cases e
    · rw [upd_ne q]; exact M.sub a u e
  len := by rw [List.length_append, List.length_append, M.len]; rfl
  nd := List.nodup_append.mpr ⟨M.nd, by simp, fun a ha b hb => by
    have : b = p := by simpa using hb
    subst this
    exact fun z => M.notIn h (z ▸ ha)⟩
  cell := fun n a c' h1 h2 => by
    by_cases q : n < m.length
    · rw [List.getElem?_append_left q] at h1
      rw [List.getElem?_append_left (by rw [← M.len]; exact q)] at h2
      have z : a ≠ p := fun z => M.notIn h (z ▸ List.mem_of_getElem? h1)
      exact (M.cell n a c' h1 h2).mono (.refl _) (.app _ _) (upd_ne z) id
    · have q' : n < (m ++ [p]).length := (List.getElem?_eq_some_iff.mp h1).1
      rw [List.length_append, List.length_singleton] at q'
      have e : n = m.length := by omega
      subst e
      rw [List.getElem?_append_right (Nat.le_refl _)] at h1
      rw [M.len, List.getElem?_append_right (Nat.le_refl _)] at h2
      simp at h1 h2
      subst h1 h2
      exact hc
  has := fun a q => by
    rcases List.mem_append.mp q with q | q
    · have z : a ≠ p := fun z => M.notIn h (z ▸ q)
      rw [upd_ne z]; exact M.has a q
    · have z : a = p := by simpa using q
      subst z
      exact ⟨o, upd_same, nt⟩
  nt := M.nt
  tab := M.tab.ext fun b u e => by rw [upd_ne (ne_of_none e h)]; exact e
theorem Grow.alloc (hp : H p = none) : Grow F m H F (m ++ [p]) (upd H p o) :=
  ⟨.refl _, .app _ _, fun a u e _ _ => by rw [upd_ne (ne_of_none e hp)]; exact e, fun a h => (List.mem_append.mp h).elim .inl fun q => .inr (by
    have z : a = p := by simpa using q
    rw [z]; exact none_new hp)⟩
/-- a cell is written -/
theorem Mem.write {n : Nat} (M : Mem K T F m H cs) (h : m[n]? = some a) (nt : CellHO o) (hF : F a = none) (hc : CellOk K F m (upd H a o) a c) : Mem K T F m (upd H a o) (cs.set n c) where
  sub := fun b u e => by
    by_cases q : b = a
    · subst q; rw [hF] at e; cases e
    · rw [upd_ne q]; exact M.sub b u e
  len := by rw [List.length_set, M.len]
  nd := M.nd
  cell := fun k b c' h1 h2 => by
    by_cases q : k = n
    · subst q
      rw [h] at h1
      cases h1
      rw [List.getElem?_set_self (by rw [← M.len]; exact (List.getElem?_eq_some_iff.mp h).1)] at h2
      cases h2
      exact hc
    · rw [List.getElem?_set_ne (Ne.symm q)] at h2
      have z : b ≠ a := fun z => by
        subst z
        obtain ⟨l1, e1⟩ := List.getElem?_eq_some_iff.mp h
        obtain ⟨l2, e2⟩ := List.getElem?_eq_some_iff.mp h1
        exact q ((List.getElem_inj M.nd).mp (e2.trans e1.symm))
      exact (M.cell k b c' h1 h2).mono (.refl _) (.refl _) (upd_ne z) id
  has := fun b q => by
    by_cases z : b = a
    · subst z; exact ⟨o, upd_same, nt⟩
    · rw [upd_ne z]; exact M.has b q
  nt := M.nt
  tab := fun q hq => by
    obtain ⟨ps, h1, h2, h3⟩ := M.tab q hq
    obtain ⟨oa, e1, e2⟩ := M.has a (List.mem_of_getElem? h)
    have n1 : q.1 ≠ a := fun z => by rw [z, e1] at h1; exact e2.nt _ (Option.some.inj h1)
    refine ⟨ps, by rw [upd_ne n1]; exact h1, h2, fun pos cv hcv => ?_⟩
    obtain ⟨c', e3, e4⟩ := h3 pos cv hcv
    refine ⟨c', e3, ?_⟩
    rw [upd_ne fun z => by rw [z, e1] at e4; exact e2.nc _ _ (Option.some.inj e4)]
    exact e4
theorem Grow.write {n : Nat} (M : Mem K T F m H cs) (h : m[n]? = some a) : Grow F m H F m (upd H a o) :=
  ⟨.refl _, .refl _, fun b u e nb _ => by
    have ha := List.mem_of_getElem? h
    rw [upd_ne fun z => by rw [z] at nb; exact nb ha]; exact e, fun _ h => .inl h⟩
end
end Sim


/-! Sim, part B: the judgements over trees, expressions. -/
namespace Sim
open PySem PySem.Spec PyProof.Rows L2

abbrev St := L2.St
abbrev Sl := List (Option D)
abbrev CsL := List Cell
abbrev DK := D → CsL → Prop
/-- what is wanted of an exception: its class, what it bears -/
abbrev ExW := Addr → D → CsL → Prop
abbrev TED := ExW → Sl → CsL → DK → Prop
abbrev TTD := ExW → Sl → CsL → (Bool → CsL → Prop) → Prop
abbrev TAD := ExW → Sl → CsL → (List D → CsL → Prop) → Prop
structure EndsD where
  nx : Sl → CsL → Prop
  rt : DK
  bk : Sl → CsL → Prop := fun _ _ => False
  ct : Sl → CsL → Prop := fun _ _ => False
abbrev TSD := ExW → Sl → CsL → EndsD → Prop
abbrev Tabl := List (Addr × Str)
/-- the store at the def's entry -/
structure W0 where
  F : Hp
  m : List Addr
  H : Hp
structure SlR (K : PySem.W.Frag) (F : Hp) (m : List Addr) (sl : Sl) (σ : St) : Prop where
  len : sl.length = σ.length
  get : ∀ (i : Nat) (d : D), sl[i]? = some (some d) → ∃ v, σ[i]? = some (some v) ∧ Rep K F m d v
structure At (K : PySem.W.Frag) (T : Tabl) (w : W0) (σ : St) (sl : Sl) (H : Hp) (cs : CsL) (F : Hp) (m : List Addr) : Prop where
  mem : Mem K T F m H cs
  gr : Grow w.F w.m w.H F m H
  slr : SlR K F m sl σ
def ExOk (K : PySem.W.Frag) (T : Tabl) (w : W0) (E : XK) (Ex : ExW) : Prop :=
  ∀ (C : Addr) (d : D) (cs : CsL) (F : Hp) (m : List Addr) (H : Hp) (v : V) (dx : Addr), Ex C d cs → Mem K T F m H cs → Grow w.F w.m w.H F m H → Rep K F m d v → H dx = some (.xd [("thing", v)]) → E (.ref C) (some dx) H
/-- a body's context -/
structure Bx where
  X : Cx
  T : Tabl
  w : W0
  E : XK
def liftE (B : Bx) (t : TED) : TE := fun σ H Q => ∃ (F : Hp) (m : List Addr) (cs : CsL) (sl : Sl) (Ex : ExW) (P : DK), At B.X.K B.T B.w σ sl H cs F m ∧ ExOk B.X.K B.T B.w B.E Ex ∧ t Ex sl cs P ∧
  ∀ (F' : Hp) (m' : List Addr) (H' : Hp) (cs' : CsL) (d : D) (v : V), P d cs' → Mem B.X.K B.T F' m' H' cs' → Grow F m H F' m' H' → Rep B.X.K F' m' d v → Q v H'
def liftT (B : Bx) (t : TTD) : TT := fun σ H Q => ∃ (F : Hp) (m : List Addr) (cs : CsL) (sl : Sl) (Ex : ExW) (P : Bool → CsL → Prop), At B.X.K B.T B.w σ sl H cs F m ∧ ExOk B.X.K B.T B.w B.E Ex ∧ t Ex sl cs P ∧
  ∀ (F' : Hp) (m' : List Addr) (H' : Hp) (cs' : CsL) (b : Bool), P b cs' → Mem B.X.K B.T F' m' H' cs' → Grow F m H F' m' H' → Q b H'
def liftA (B : Bx) (t : TAD) : TA := fun σ H Q => ∃ (F : Hp) (m : List Addr) (cs : CsL) (sl : Sl) (Ex : ExW) (P : List D → CsL → Prop), At B.X.K B.T B.w σ sl H cs F m ∧ ExOk B.X.K B.T B.w B.E Ex ∧ t Ex sl cs P ∧
  ∀ (F' : Hp) (m' : List Addr) (H' : Hp) (cs' : CsL) (ds : List D) (vs : List V), P ds cs' → Mem B.X.K B.T F' m' H' cs' → Grow F m H F' m' H' → RepL B.X.K F' m' ds vs → Q vs H'
/-- what follows below is what follows over trees, from the store F m H on -/
structure Conts (B : Bx) (F : Hp) (m : List Addr) (H : Hp) (P : EndsD) (Dn : Ends) : Prop where
  nx : ∀ (F' : Hp) (m' : List Addr) (H' : Hp) (cs' : CsL) (sl' : Sl) (σ' : St), P.nx sl' cs' → At B.X.K B.T B.w σ' sl' H' cs' F' m' → Grow F m H F' m' H' → Dn.nx σ' H'
  rt : ∀ (F' : Hp) (m' : List Addr) (H' : Hp) (cs' : CsL) (d : D) (v : V), P.rt d cs' → Mem B.X.K B.T F' m' H' cs' → Grow F m H F' m' H' → Rep B.X.K F' m' d v → Dn.rt v H'
  bk : ∀ (F' : Hp) (m' : List Addr) (H' : Hp) (cs' : CsL) (sl' : Sl) (σ' : St), P.bk sl' cs' → At B.X.K B.T B.w σ' sl' H' cs' F' m' → Grow F m H F' m' H' → Dn.bk σ' H'
  ct : ∀ (F' : Hp) (m' : List Addr) (H' : Hp) (cs' : CsL) (sl' : Sl) (σ' : St), P.ct sl' cs' → At B.X.K B.T B.w σ' sl' H' cs' F' m' → Grow F m H F' m' H' → Dn.ct σ' H'
theorem Conts.step {B : Bx} {F F1 : Hp} {m m1 : List Addr} {H H1 : Hp} {P : EndsD} {Dn : Ends} (c : Conts B F m H P Dn) (g : Grow F m H F1 m1 H1) : Conts B F1 m1 H1 P Dn :=
  ⟨fun F' m' H' cs' sl' σ' p a g' => c.nx F' m' H' cs' sl' σ' p a (g.trans g'), fun F' m' H' cs' d v p M g' r => c.rt F' m' H' cs' d v p M (g.trans g') r,
   fun F' m' H' cs' sl' σ' p a g' => c.bk F' m' H' cs' sl' σ' p a (g.trans g'), fun F' m' H' cs' sl' σ' p a g' => c.ct F' m' H' cs' sl' σ' p a (g.trans g')⟩
def liftS (B : Bx) (t : TSD) : TS := fun Dn σ H => ∃ (F : Hp) (m : List Addr) (cs : CsL) (sl : Sl) (Ex : ExW) (P : EndsD), At B.X.K B.T B.w σ sl H cs F m ∧ ExOk B.X.K B.T B.w B.E Ex ∧ t Ex sl cs P ∧ Conts B F m H P Dn
def SimE (B : Bx) (e : Expr) (t : TED) : Prop := PE B.X e (liftE B t)
def SimT (B : Bx) (e : Expr) (t : TTD) : Prop := PT B.X e (liftT B t)
def SimW (B : Bx) (e : Expr) (t : TTD) : Prop := PW B.X e (liftT B t)
def SimA (B : Bx) (es : List Expr) (t : TAD) : Prop := PA B.X es (liftA B t)
def SimS (B : Bx) (s : Stmt) (t : TSD) : Prop := PS B.X s (liftS B t)
def SimSs (B : Bx) (s : List Stmt) (t : TSD) : Prop := PSs B.X s (liftS B t)

/-! a judgement of the layer below, whatever follows from ours -/
theorem PE.to {X : Cx} {e : Expr} {t u : TE} (h : PE X e t) (hu : ∀ σ H Q, u σ H Q → t σ H Q) : PE X e u := ⟨fun pins s σ H Q I q => h.run pins s σ H Q I (hu _ _ _ q)⟩
theorem PT.to {X : Cx} {e : Expr} {t u : TT} (h : PT X e t) (hu : ∀ σ H Q, u σ H Q → t σ H Q) : PT X e u := ⟨fun pins s σ H Q I q => h.run pins s σ H Q I (hu _ _ _ q)⟩
theorem PW.to {X : Cx} {e : Expr} {t u : TT} (h : PW X e t) (hu : ∀ σ H Q, u σ H Q → t σ H Q) : PW X e u := ⟨fun wh pins s σ H Q I q => h.run wh pins s σ H Q I (hu _ _ _ q)⟩
theorem PA.to {X : Cx} {e : List Expr} {t u : TA} (h : PA X e t) (hu : ∀ σ H Q, u σ H Q → t σ H Q) : PA X e u := ⟨fun pos pins s σ H Q I q => h.run pos pins s σ H Q I (hu _ _ _ q)⟩
theorem PS.to {X : Cx} {e : Stmt} {t u : TS} (h : PS X e t) (hu : ∀ D σ H, u D σ H → t D σ H) : PS X e u := ⟨fun pins s σ H Q I q => h.run pins s σ H Q I (hu _ _ _ q)⟩
theorem PSs.to {X : Cx} {e : List Stmt} {t u : TS} (h : PSs X e t) (hu : ∀ D σ H, u D σ H → t D σ H) : PSs X e u := ⟨fun pins s σ H Q I q => h.run pins s σ H Q I (hu _ _ _ q)⟩

section
variable {K : PySem.W.Frag} {T : Tabl} {w : W0} {σ : St} {sl : Sl} {H H' F F' : Hp} {cs cs' : CsL} {m m' : List Addr}
theorem SlR.mono (h : SlR K F m sl σ) (hF : Sub F F') (hm : Pre m m') : SlR K F' m' sl σ := ⟨h.len, fun i d e => let ⟨v, e', r⟩ := h.get i d e; ⟨v, e', Rep.mono hF hm d v r⟩⟩
theorem At.step (a : At K T w σ sl H cs F m) (M : Mem K T F' m' H' cs') (g : Grow F m H F' m' H') : At K T w σ sl H' cs' F' m' := ⟨M, a.gr.trans g, a.slr.mono g.fro g.pre⟩
theorem SlR.set {i : Nat} {d : D} {v : V} (h : SlR K F m sl σ) (r : Rep K F m d v) : SlR K F m (sl.set i (some d)) (σ.set i (some v)) := ⟨by rw [List.length_set, List.length_set, h.len], fun j e q => by
  by_cases z : i = j
  · subst z
    have hl : i < sl.length := by
      have := (List.getElem?_eq_some_iff.mp q).1
      rwa [List.length_set] at this
    rw [List.getElem?_set_self hl] at q
    cases q
    exact ⟨v, List.getElem?_set_self (h.len ▸ hl), r⟩
  · rw [List.getElem?_set_ne z] at q ⊢
    exact h.get j e q⟩
theorem At.set {i : Nat} {d : D} {v : V} (a : At K T w σ sl H cs F m) (r : Rep K F m d v) : At K T w (σ.set i (some v)) (sl.set i (some d)) H cs F m := ⟨a.mem, a.gr, a.slr.set r⟩
end

/-! ### expressions -/
section
variable {B : Bx} {a b c e : Expr} {es : List Expr} {ta tb tc te : TED} {tA tB' : TTD} {tr : TAD} {pos : Pos}
def dVar (i : Nat) : TED := fun _ sl cs Q => match sl[i]? with | some (some d) => Q d cs | _ => False
def dC (d : D) : TED := fun _ _ cs Q => Q d cs
theorem simE_var (i : Nat) (h : PE B.X e (tVar i)) : SimE B e (dVar i) := PE.to h fun σ H Q ⟨F, m, cs, sl, Ex, P, A, X, h, k⟩ => by
  unfold dVar at h
  cases q : sl[i]? with
  | none => rw [q] at h; exact h.elim
  | some o =>
    cases o with
    | none => rw [q] at h; exact h.elim
    | some d =>
      rw [q] at h
      obtain ⟨v, e, r⟩ := A.slr.get i d q
      exact ⟨v, e, k F m H cs d v h A.mem .refl r⟩
/-- a constant, told alike in every store -/
theorem simE_c (d : D) (v : V) (h : PE B.X e (tC v)) (r : ∀ F m, Rep B.X.K F m d v) : SimE B e (dC d) := PE.to h fun σ H Q ⟨F, m, cs, sl, Ex, P, A, X, h, k⟩ => k F m H cs d v h A.mem .refl (r F m)
theorem simE_int {i : Int} {j} : SimE B (.Constant (.int i) j pos) (dC (.int i)) := simE_c (.int i) (.int i) pe_int fun F m => by simp only [Rep]
theorem simE_bl {i : Bool} {j} : SimE B (.Constant (.bool i) j pos) (dC (.bl i)) := simE_c (.bl i) (.bl i) pe_bl fun F m => by simp only [Rep]
theorem simE_non {j} : SimE B (.Constant .none j pos) (dC .non) := simE_c .non .non pe_non fun F m => by simp only [Rep]
theorem simE_str {i : Str} {j} : SimE B (.Constant (.str i) j pos) (dC (.str i)) := simE_c (.str i) (.str i) pe_str fun F m => by simp only [Rep]

/-! argument lists -/
def aNil : TAD := fun _ _ cs Q => Q [] cs
def aCons (t : TED) (r : TAD) : TAD := fun Ex sl cs Q => t Ex sl cs fun d cs1 => r Ex sl cs1 fun ds cs2 => Q (d :: ds) cs2
theorem simA_nil : SimA B [] aNil := PA.to pa_nil fun σ H Q ⟨F, m, cs, sl, Ex, P, A, X, h, k⟩ => k F m H cs [] [] h A.mem .refl .nil
theorem simA_cons (ha : SimE B e te) (hr : SimA B es tr) (hs : starEach (e :: es) B.X.env = (false, eval e B.X.env) :: starEach es B.X.env := by rfl) : SimA B (e :: es) (aCons te tr) :=
  PA.to (pa_cons ha hr hs) fun σ H Q ⟨F, m, cs, sl, Ex, P, A, X, h, k⟩ => ⟨F, m, cs, sl, Ex, _, A, X, h, fun F1 m1 H1 cs1 d v p1 M1 g1 r1 =>
    ⟨F1, m1, cs1, sl, Ex, _, A.step M1 g1, X, p1, fun F2 m2 H2 cs2 ds vs p2 M2 g2 r2 => k F2 m2 H2 cs2 (d :: ds) (v :: vs) p2 M2 (g1.trans g2) (.cons (g2.rep r1) r2)⟩⟩

/-! operators by values -/
abbrev R2D := D → D → CsL → DK → Prop
/-- r over trees gives R below -/
def OpS (K : PySem.W.Frag) (T : Tabl) (R : R2) (r : R2D) : Prop := ∀ (F : Hp) (m : List Addr) (H : Hp) (cs : CsL) (d e : D) (v u : V) (P : DK) (Q : VK), Mem K T F m H cs → Rep K F m d v → Rep K F m e u → r d e cs P →
  (∀ (F' : Hp) (m' : List Addr) (H' : Hp) (cs' : CsL) (d' : D) (v' : V), P d' cs' → Mem K T F' m' H' cs' → Grow F m H F' m' H' → Rep K F' m' d' v' → Q v' H') → R v u H Q
def dBin (r : R2D) (ta tb : TED) : TED := fun Ex sl cs Q => ta Ex sl cs fun x cs1 => tb Ex sl cs1 fun y cs2 => r x y cs2 Q
theorem bin_to {R : R2} {r : R2D} (hs : OpS B.X.K B.T R r) : ∀ σ H Q, liftE B (dBin r ta tb) σ H Q → tOp R (liftE B ta) (liftE B tb) σ H Q := fun σ H Q ⟨F, m, cs, sl, Ex, P, A, X, h, k⟩ =>
  ⟨F, m, cs, sl, Ex, _, A, X, h, fun F1 m1 H1 cs1 d v p1 M1 g1 r1 => ⟨F1, m1, cs1, sl, Ex, _, A.step M1 g1, X, p1, fun F2 m2 H2 cs2 e u p2 M2 g2 r2 =>
    hs F2 m2 H2 cs2 d e v u P Q M2 (g2.rep r1) r2 p2 fun F3 m3 H3 cs3 d3 v3 p3 M3 g3 r3 => k F3 m3 H3 cs3 d3 v3 p3 M3 ((g1.trans g2).trans g3) r3⟩⟩
theorem simE_op {op : Operator} {R : R2} {r : R2D} (ho : OpR B.X (binaryOp op) R) (hs : OpS B.X.K B.T R r) (ha : SimE B a ta) (hb : SimE B b tb) : SimE B (.BinOp a op b pos) (dBin r ta tb) := PE.to (pe_op ho ha hb) (bin_to hs)
theorem simE_cmp {op : CmpOp} {R : R2} {r : R2D} (ho : OpR B.X (compareOp op) R) (hs : OpS B.X.K B.T R r) (ha : SimE B a ta) (hb : SimE B b tb) (hm : behindInMarks op b = false) : SimE B (.Compare a [op] [b] pos) (dBin r ta tb) := PE.to (pe_cmpR ho ha hb hm) (bin_to hs)
/-- a truth as a test -/
def dTest (t : TED) : TTD := fun Ex sl cs Q => t Ex sl cs fun d cs1 => match d with | .bl k => Q k cs1 | _ => False
theorem test_to {u : TE} {t : TED} (hu : ∀ σ H Q, liftE B t σ H Q → u σ H Q) : ∀ σ H Q, liftT B (dTest t) σ H Q → tTest u σ H Q := fun σ H Q ⟨F, m, cs, sl, Ex, P, A, X, h, k⟩ =>
  hu _ _ _ ⟨F, m, cs, sl, Ex, _, A, X, h, fun F1 m1 H1 cs1 d v p1 M1 g1 r1 => by
    cases d with
    | bl b =>
      simp only [Rep] at r1
      exact ⟨b, r1, k F1 m1 H1 cs1 b p1 M1 g1⟩
    | _ => exact p1.elim⟩
theorem simT_cmp {op : CmpOp} {R : R2} {r : R2D} (ho : OpR B.X (compareOp op) R) (hs : OpS B.X.K B.T R r) (ha : SimE B a ta) (hb : SimE B b tb) (hm : behindInMarks op b = false) : SimT B (.Compare a [op] [b] pos) (dTest (dBin r ta tb)) := PT.to (pt_cmpR ho ha hb hm) (test_to (bin_to hs))
theorem simT_val (h : SimE B e te) (he : ∀ whole, isTrue e B.X.env whole = (do let v ← whole; standAt e.pos; holding [v] (truthy v)) := by intro _; rfl) : SimT B e (dTest te) := PT.to (pt_val h he) (test_to fun _ _ _ q => q)
/-- a < b < c -/
@[irreducible] def dChain (r r' : R2D) (ta tb tc : TED) : TED := fun Ex sl cs Q => ta Ex sl cs fun x cs1 => tb Ex sl cs1 fun y cs2 => r x y cs2 fun z cs3 => match z with | .bl true => tc Ex sl cs3 fun u cs4 => r' y u cs4 Q | .bl false => Q (.bl false) cs3 | _ => False

/-! and, or, not, if -/
def dAnd (t u : TTD) : TTD := fun Ex sl cs Q => t Ex sl cs fun k cs1 => if k = true then u Ex sl cs1 Q else Q false cs1
def dOr (t u : TTD) : TTD := fun Ex sl cs Q => t Ex sl cs fun k cs1 => if k = true then Q true cs1 else u Ex sl cs1 Q
def dNot (t : TTD) : TTD := fun Ex sl cs Q => t Ex sl cs fun k cs1 => Q (!k) cs1
theorem simW_and1 (ha : SimT B a tA) : SimW B (.BoolOp .And [a] pos) tA := pw_and1 ha
theorem simW_or1 (ha : SimT B a tA) : SimW B (.BoolOp .Or [a] pos) tA := pw_or1 ha
theorem simW_and {rest : List Expr} (ha : SimT B a tA) (hb : SimW B (.BoolOp .And (b :: rest) pos) tB') : SimW B (.BoolOp .And (a :: b :: rest) pos) (dAnd tA tB') :=
  PW.to (pw_and ha hb) fun σ H Q ⟨F, m, cs, sl, Ex, P, A, X, h, k⟩ => ⟨F, m, cs, sl, Ex, _, A, X, h, fun F1 m1 H1 cs1 c p1 M1 g1 => by
    cases c with
    | true => exact iteT ⟨F1, m1, cs1, sl, Ex, P, A.step M1 g1, X, p1, fun F2 m2 H2 cs2 c p2 M2 g2 => k F2 m2 H2 cs2 c p2 M2 (g1.trans g2)⟩
    | false => exact iteF (k F1 m1 H1 cs1 false p1 M1 g1)⟩
theorem simW_or {rest : List Expr} (ha : SimT B a tA) (hb : SimW B (.BoolOp .Or (b :: rest) pos) tB') : SimW B (.BoolOp .Or (a :: b :: rest) pos) (dOr tA tB') :=
  PW.to (pw_or ha hb) fun σ H Q ⟨F, m, cs, sl, Ex, P, A, X, h, k⟩ => ⟨F, m, cs, sl, Ex, _, A, X, h, fun F1 m1 H1 cs1 c p1 M1 g1 => by
    cases c with
    | false => exact iteF ⟨F1, m1, cs1, sl, Ex, P, A.step M1 g1, X, p1, fun F2 m2 H2 cs2 c p2 M2 g2 => k F2 m2 H2 cs2 c p2 M2 (g1.trans g2)⟩
    | true => exact iteT (k F1 m1 H1 cs1 true p1 M1 g1)⟩
theorem SimW.t (h : SimW B e tA) : SimT B e tA := PW.pt h
theorem simT_not (ha : SimT B a tA) : SimT B (.UnaryOp .Not a pos) (dNot tA) := PT.to (pt_not ha) fun σ H Q ⟨F, m, cs, sl, Ex, P, A, X, h, k⟩ => ⟨F, m, cs, sl, Ex, _, A, X, h, fun F1 m1 H1 cs1 c p1 M1 g1 => k F1 m1 H1 cs1 (!c) p1 M1 g1⟩
/-- as values (truths) -/
def dAndV (ta tb : TED) : TED := fun Ex sl cs Q => ta Ex sl cs fun d cs1 => match d with | .bl true => tb Ex sl cs1 Q | .bl false => Q (.bl false) cs1 | _ => False
def dOrV (ta tb : TED) : TED := fun Ex sl cs Q => ta Ex sl cs fun d cs1 => match d with | .bl true => Q (.bl true) cs1 | .bl false => tb Ex sl cs1 Q | _ => False
def dNotV (ta : TED) : TED := fun Ex sl cs Q => ta Ex sl cs fun d cs1 => match d with | .bl k => Q (.bl (!k)) cs1 | _ => False
theorem simE_one {op} (h : SimE B a ta) : SimE B (.BoolOp op [a] pos) ta := pe_one h
theorem simE_and {rest : List Expr} (ha : SimE B a ta) (hb : SimE B (.BoolOp .And (b :: rest) pos) tb) : SimE B (.BoolOp .And (a :: b :: rest) pos) (dAndV ta tb) :=
  PE.to (pe_and ha hb) fun σ H Q ⟨F, m, cs, sl, Ex, P, A, X, h, k⟩ => ⟨F, m, cs, sl, Ex, _, A, X, h, fun F1 m1 H1 cs1 d v p1 M1 g1 r1 => by
    cases d with
    | bl c =>
      simp only [Rep] at r1
      refine ⟨c, r1, ?_⟩
      cases c with
      | true => exact iteT ⟨F1, m1, cs1, sl, Ex, P, A.step M1 g1, X, p1, fun F2 m2 H2 cs2 c v p2 M2 g2 r => k F2 m2 H2 cs2 c v p2 M2 (g1.trans g2) r⟩
      | false => exact iteF (k F1 m1 H1 cs1 _ _ p1 M1 g1 (by simp only [Rep]))
    | _ => exact p1.elim⟩
theorem simE_or {rest : List Expr} (ha : SimE B a ta) (hb : SimE B (.BoolOp .Or (b :: rest) pos) tb) : SimE B (.BoolOp .Or (a :: b :: rest) pos) (dOrV ta tb) :=
  PE.to (pe_or ha hb) fun σ H Q ⟨F, m, cs, sl, Ex, P, A, X, h, k⟩ => ⟨F, m, cs, sl, Ex, _, A, X, h, fun F1 m1 H1 cs1 d v p1 M1 g1 r1 => by
    cases d with
    | bl c =>
      simp only [Rep] at r1
      refine ⟨c, r1, ?_⟩
      cases c with
      | false => exact iteF ⟨F1, m1, cs1, sl, Ex, P, A.step M1 g1, X, p1, fun F2 m2 H2 cs2 c v p2 M2 g2 r => k F2 m2 H2 cs2 c v p2 M2 (g1.trans g2) r⟩
      | true => exact iteT (k F1 m1 H1 cs1 _ _ p1 M1 g1 (by simp only [Rep]))
    | _ => exact p1.elim⟩
theorem simE_not (ha : SimE B a ta) : SimE B (.UnaryOp .Not a pos) (dNotV ta) := PE.to (pe_not ha) fun σ H Q ⟨F, m, cs, sl, Ex, P, A, X, h, k⟩ => ⟨F, m, cs, sl, Ex, _, A, X, h, fun F1 m1 H1 cs1 d v p1 M1 g1 r1 => by
    cases d with
    | bl c =>
      simp only [Rep] at r1
      exact ⟨c, r1, k F1 m1 H1 cs1 _ _ p1 M1 g1 (by simp only [Rep])⟩
    | _ => exact p1.elim⟩
def dIf (t : TTD) (ta tb : TED) : TED := fun Ex sl cs Q => t Ex sl cs fun k cs1 => if k = true then ta Ex sl cs1 Q else tb Ex sl cs1 Q
theorem simE_if (hc : SimT B c tA) (ha : SimE B a ta) (hb : SimE B b tb) : SimE B (.IfExp c a b pos) (dIf tA ta tb) :=
  PE.to (pe_ifExp hc ha hb) fun σ H Q ⟨F, m, cs, sl, Ex, P, A, X, h, k⟩ => ⟨F, m, cs, sl, Ex, _, A, X, h, fun F1 m1 H1 cs1 c p1 M1 g1 => by
    cases c with
    | false =>
      rw [if_neg Bool.false_ne_true] at p1 ⊢
      exact ⟨F1, m1, cs1, sl, Ex, P, A.step M1 g1, X, p1, fun F2 m2 H2 cs2 c v p2 M2 g2 r => k F2 m2 H2 cs2 c v p2 M2 (g1.trans g2) r⟩
    | true =>
      rw [if_pos rfl] at p1 ⊢
      exact ⟨F1, m1, cs1, sl, Ex, P, A.step M1 g1, X, p1, fun F2 m2 H2 cs2 c v p2 M2 g2 r => k F2 m2 H2 cs2 c v p2 M2 (g1.trans g2) r⟩⟩

theorem chain_to {R R' : R2} {r r' : R2D} (hs : OpS B.X.K B.T R r) (hs' : OpS B.X.K B.T R' r') : ∀ σ H Q, liftE B (dChain r r' ta tb tc) σ H Q → tChain R R' (liftE B ta) (liftE B tb) (liftE B tc) σ H Q := fun σ H Q ⟨F, m, cs, sl, Ex, P, A, X, h, k⟩ => by
  unfold dChain at h
  exact ⟨F, m, cs, sl, Ex, _, A, X, h, fun F1 m1 H1 cs1 d v p1 M1 g1 r1 => ⟨F1, m1, cs1, sl, Ex, _, A.step M1 g1, X, p1, fun F2 m2 H2 cs2 e u p2 M2 g2 r2 =>
    hs F2 m2 H2 cs2 d e v u _ _ M2 (g2.rep r1) r2 p2 fun F3 m3 H3 cs3 d3 v3 p3 M3 g3 r3 => by
      cases d3 with
      | bl z =>
        simp only [Rep] at r3
        refine ⟨z, r3, ?_⟩
        cases z with
        | true => exact iteT ⟨F3, m3, cs3, sl, Ex, _, A.step M3 ((g1.trans g2).trans g3), X, p3, fun F4 m4 H4 cs4 x y p4 M4 g4 r4 =>
            hs' F4 m4 H4 cs4 e x u y P Q M4 ((g3.trans g4).rep r2) r4 p4 fun F5 m5 H5 cs5 d5 v5 p5 M5 g5 r5 => k F5 m5 H5 cs5 d5 v5 p5 M5 (((g1.trans g2).trans g3).trans (g4.trans g5)) r5⟩
        | false => exact iteF (k F3 m3 H3 cs3 _ _ p3 M3 ((g1.trans g2).trans g3) (by simp only [Rep]))
      | _ => exact p3.elim⟩⟩
theorem simE_chain {op op' : CmpOp} {R R' : R2} {r r' : R2D} (ho : OpR B.X (compareOp op) R) (hs : OpS B.X.K B.T R r) (ho' : OpR B.X (compareOp op') R') (hs' : OpS B.X.K B.T R' r') (ha : SimE B a ta) (hb : SimE B b tb) (hc : SimE B c tc)
    (hm : lastMarks [op, op'] [b, c] = false := by with_unfolding_all rfl) : SimE B (.Compare a [op, op'] [b, c] pos) (dChain r r' ta tb tc) := PE.to (pe_chain ho ho' ha hb hc hm) (chain_to hs hs')
theorem simT_chain {op op' : CmpOp} {R R' : R2} {r r' : R2D} (ho : OpR B.X (compareOp op) R) (hs : OpS B.X.K B.T R r) (ho' : OpR B.X (compareOp op') R') (hs' : OpS B.X.K B.T R' r') (ha : SimE B a ta) (hb : SimE B b tb) (hc : SimE B c tc)
    (hm : lastMarks [op, op'] [b, c] = false := by with_unfolding_all rfl) : SimT B (.Compare a [op, op'] [b, c] pos) (dTest (dChain r r' ta tb tc)) := PT.to (pt_chain ho ho' ha hb hc hm) (test_to (chain_to hs hs'))
end
end Sim


/-! Sim, part C: what a def leaves behind: cells that are not kept stay as they are from now on. -/
namespace Sim
open PySem PySem.Spec PyProof.Rows L2

/-- the place of k in ks -/
def pos? : List Nat → Nat → Option Nat
  | [], _ => none
  | x :: xs, k => if k = x then some 0 else (pos? xs k).map (· + 1)
theorem pos?_get : ∀ {ks : List Nat} {k j : Nat}, pos? ks k = some j → ks[j]? = some k
  | x :: xs, k, j, h => by
    unfold pos? at h
    split at h
    · rename_i e; cases h; simp [e]
    · cases q : pos? xs k with
      | none => rw [q] at h; cases h
      | some i =>
        rw [q] at h
        cases h
        simpa using pos?_get q
theorem pos?_none : ∀ {ks : List Nat} {k : Nat}, pos? ks k = none → k ∉ ks
  | [], k, _ => by simp
  | x :: xs, k, h => by
    unfold pos? at h
    split at h
    · cases h
    · rename_i e
      cases q : pos? xs k with
      | none =>
        have := pos?_none q
        simp [e, this]
      | some i => rw [q] at h; cases h

mutual
/-- no cell from n on is named -/
def Bel (n : Nat) : D → Prop
  | .tup ds => BelL n ds
  | .lst ds => BelL n ds
  | .dct _ ds => BelL n ds
  | .loc k => k < n
  | _ => True
def BelL (n : Nat) : List D → Prop
  | [] => True
  | d :: ds => Bel n d ∧ BelL n ds
end
open Classical in
/-- cells from n on: those of ks are kept, by their place; the others are told as trees from now on -/
noncomputable def froz (n : Nat) (ks : List Nat) (cs : CsL) : Nat → D → D
  | 0, d => if Bel n d then d else .loc (n + ks.length)
  | f + 1, .tup ds => .tup (ds.map (froz n ks cs f))
  | f + 1, .lst ds => .lst (ds.map (froz n ks cs f))
  | f + 1, .dct k ds => .dct k (ds.map (froz n ks cs f))
  | f + 1, .loc k => if k < n then .loc k else match pos? ks k with
    | some j => .loc (n + j)
    | none => match cs[k]? with
      | some (.lst ds) => .lst (ds.map (froz n ks cs f))
      | some (.dic k ds) => .dct k (ds.map (froz n ks cs f))
      | _ => .loc (n + ks.length)
  | _ + 1, d => d
noncomputable def frozC (n : Nat) (ks : List Nat) (cs : CsL) (f : Nat) : Cell → Cell
  | .lst ds => .lst (ds.map (froz n ks cs f))
  | .dic k ds => .dic k (ds.map (froz n ks cs f))
  | .gone => .gone
def BelC (n : Nat) : Cell → Prop
  | .lst ds => BelL n ds
  | .dic _ ds => BelL n ds
  | .gone => True
theorem BelL.all {n : Nat} : ∀ {ds : List D}, BelL n ds → ∀ d ∈ ds, Bel n d
  | d :: ds, h, e, q => by
    simp only [BelL] at h
    rcases List.mem_cons.mp q with q | q
    · subst q; exact h.1
    · exact BelL.all h.2 e q
theorem BelL.of {n : Nat} : ∀ {ds : List D}, (∀ d ∈ ds, Bel n d) → BelL n ds
  | [], _ => by simp only [BelL]
  | d :: ds, h => by
    simp only [BelL]
    exact ⟨h d (List.mem_cons_self ..), BelL.of fun e q => h e (List.mem_cons_of_mem _ q)⟩
mutual
theorem Bel.mono {n n' : Nat} (l : n ≤ n') : ∀ (d : D), Bel n d → Bel n' d
  | .tup ds, h => by simp only [Bel] at h ⊢; exact BelL.mono l ds h
  | .lst ds, h => by simp only [Bel] at h ⊢; exact BelL.mono l ds h
  | .dct _ ds, h => by simp only [Bel] at h ⊢; exact BelL.mono l ds h
  | .loc k, h => by simp only [Bel] at h ⊢; omega
  | .non, _ => by simp only [Bel]
  | .bl _, _ => by simp only [Bel]
  | .int _, _ => by simp only [Bel]
  | .str _, _ => by simp only [Bel]
  | .fn _, _ => by simp only [Bel]
  | .ty _, _ => by simp only [Bel]
theorem BelL.mono {n n' : Nat} (l : n ≤ n') : ∀ (ds : List D), BelL n ds → BelL n' ds
  | [], h => by simp only [BelL]
  | d :: ds, h => by simp only [BelL] at h ⊢; exact ⟨Bel.mono l d h.1, BelL.mono l ds h.2⟩
end
section
variable {K : PySem.W.Frag} {T : Tabl} {F F1 F' H H1 : Hp} {m m1 m' : List Addr} {cs cs0 : CsL} {n : Nat} {ks : List Nat}
mutual
theorem Rep.bel : ∀ (d : D) (v : V), Rep K F m d v → Bel m.length d
  | .tup ds, v, h => by
    simp only [Rep] at h; simp only [Bel]
    obtain ⟨a, vs, e, s, r⟩ := h
    exact RepL.bel ds vs r
  | .lst ds, v, h => by
    simp only [Rep] at h; simp only [Bel]
    obtain ⟨a, vs, e, s, r⟩ := h
    exact RepL.bel ds vs r
  | .dct _ ds, v, h => by
    simp only [Rep] at h; simp only [Bel]
    obtain ⟨a, vs, e, s, l, r⟩ := h
    exact RepL.bel ds vs r
  | .loc k, v, h => by
    simp only [Rep] at h; simp only [Bel]
    obtain ⟨a, e, q⟩ := h
    exact (List.getElem?_eq_some_iff.mp q).1
  | .non, _, _ => by simp only [Bel]
  | .bl _, _, _ => by simp only [Bel]
  | .int _, _, _ => by simp only [Bel]
  | .str _, _, _ => by simp only [Bel]
  | .fn _, _, _ => by simp only [Bel]
  | .ty _, _, _ => by simp only [Bel]
theorem RepL.bel : ∀ (ds : List D) (vs : List V), RepL K F m ds vs → BelL m.length ds
  | [], _, _ => by simp only [BelL]
  | d :: ds, vs, h => by
    simp only [RepL] at h; simp only [BelL]
    obtain ⟨v, r, e, h1, h2⟩ := h
    exact ⟨Rep.bel d v h1, RepL.bel ds r h2⟩
end
theorem Mem.bel (M : Mem K T F m H cs) {k : Nat} {c : Cell} (h : cs[k]? = some c) : BelC m.length c := by
  have hl : k < m.length := by
    rw [M.len]
    exact (List.getElem?_eq_some_iff.mp h).1
  have := M.cell k (m[k]) c (List.getElem?_eq_getElem hl) h
  cases c with
  | lst ds => obtain ⟨_, vs, _, r⟩ := this; exact RepL.bel ds vs r
  | dic _ ds => obtain ⟨_, vs, _, _, r⟩ := this; exact RepL.bel ds vs r
  | gone => trivial
mutual
theorem Rep.cut (hF : Sub F F') (hm : ∀ k a, k < n → m[k]? = some a → m'[k]? = some a) : ∀ (d : D) (v : V), Bel n d → Rep K F m d v → Rep K F' m' d v
  | .tup ds, v, b, h => by
    simp only [Rep] at h ⊢; simp only [Bel] at b
    obtain ⟨a, vs, e, s, r⟩ := h
    exact ⟨a, vs, e, hF.sqt s, RepL.cut hF hm ds vs b r⟩
  | .lst ds, v, b, h => by
    simp only [Rep] at h ⊢; simp only [Bel] at b
    obtain ⟨a, vs, e, s, r⟩ := h
    exact ⟨a, vs, e, hF.sql s, RepL.cut hF hm ds vs b r⟩
  | .dct _ ds, v, b, h => by
    simp only [Rep] at h ⊢; simp only [Bel] at b
    obtain ⟨a, vs, e, s, l, r⟩ := h
    exact ⟨a, vs, e, hF.rd s, l, RepL.cut hF hm ds vs b r⟩
  | .loc k, v, b, h => by
    simp only [Rep] at h ⊢; simp only [Bel] at b
    obtain ⟨a, e, q⟩ := h
    exact ⟨a, e, hm k a b q⟩
  | .non, _, _, h => by simp only [Rep] at h ⊢; exact h
  | .bl _, _, _, h => by simp only [Rep] at h ⊢; exact h
  | .int _, _, _, h => by simp only [Rep] at h ⊢; exact h
  | .str _, _, _, h => by simp only [Rep] at h ⊢; exact h
  | .fn _, _, _, h => by simp only [Rep] at h ⊢; exact h
  | .ty _, _, _, h => by simp only [Rep] at h ⊢; exact h
theorem RepL.cut (hF : Sub F F') (hm : ∀ k a, k < n → m[k]? = some a → m'[k]? = some a) : ∀ (ds : List D) (vs : List V), BelL n ds → RepL K F m ds vs → RepL K F' m' ds vs
  | [], _, _, h => by simp only [RepL] at h ⊢; exact h
  | d :: ds, vs, b, h => by
    simp only [RepL] at h ⊢; simp only [BelL] at b
    obtain ⟨v, r, e, h1, h2⟩ := h
    exact ⟨v, r, e, Rep.cut hF hm d v b.1 h1, RepL.cut hF hm ds r b.2 h2⟩
end
theorem RepL.mapf {f : D → D} (h : ∀ d v, Rep K F m d v → Bel n (f d) → Rep K F' m' (f d) v) : ∀ (ds : List D) (vs : List V), RepL K F m ds vs → BelL n (ds.map f) → RepL K F' m' (ds.map f) vs
  | [], _, r, _ => by simp only [RepL, List.map] at r ⊢; exact r
  | d :: ds, vs, r, b => by
    simp only [RepL, List.map] at r ⊢; simp only [BelL, List.map] at b
    obtain ⟨v, w, e, h1, h2⟩ := r
    exact ⟨v, w, e, h d v h1 b.1, RepL.mapf h ds w h2 b.2⟩

/-- what stands behind a def: d, cs told as d', cs' -/
def Lands (K : PySem.W.Frag) (T : Tabl) (n : Nat) (d : D) (cs : CsL) (d' : D) (cs' : CsL) : Prop :=
  ∀ (F : Hp) (m : List Addr) (H F1 : Hp) (m1 : List Addr) (H1 : Hp) (v : V) (cs0 : CsL), m.length = n → Mem K T F m H cs0 → Mem K T F1 m1 H1 cs → Grow F m H F1 m1 H1 → Rep K F1 m1 d v →
    ∃ (F' : Hp) (m' : List Addr), Mem K T F' m' H1 cs' ∧ Grow F m H F' m' H1 ∧ Rep K F' m' d' v
theorem Lands.refl {d : D} : Lands K T n d cs d cs := fun F m H F1 m1 H1 v cs0 hl M0 M g r => ⟨F1, m1, M, g, r⟩
theorem map_get {α β : Type} {f : α → β} {l : List α} {i : Nat} {b : β} (h : (l.map f)[i]? = some b) : ∃ a, l[i]? = some a ∧ f a = b := by
  rw [List.getElem?_map] at h
  cases q : l[i]? with
  | none => rw [q] at h; cases h
  | some a => rw [q] at h; cases h; exact ⟨a, rfl, rfl⟩
/-- the cells of ks (from n on) are kept, all others from n on are trees from now on -/
theorem lands_keep (ks : List Nat) (f : Nat) {d : D} (hks : ks.Nodup) (hk : ∀ k ∈ ks, n ≤ k ∧ k < cs.length) (hd : Bel (n + ks.length) (froz n ks cs f d)) (hn : n ≤ cs.length)
    (hc : ∀ (k : Nat) (c : Cell), k < n → cs[k]? = some c → BelC n c) (hc2 : ∀ (k : Nat) (c : Cell), k ∈ ks → cs[k]? = some c → BelC (n + ks.length) (frozC n ks cs f c)) :
    Lands K T n d cs (froz n ks cs f d) (cs.take n ++ ks.map fun k => frozC n ks cs f (cs.getD k .gone)) := by
  intro F m H F1 m1 H1 v cs0 hl M0 M g r
  classical
  -- the addresses that are dropped
  let Dr : Addr → Prop := fun a => ∃ k, n ≤ k ∧ k ∉ ks ∧ m1[k]? = some a
  let F' : Hp := fun a => if Dr a then H1 a else F1 a
  let m' : List Addr := m ++ ks.map fun k => m1.getD k 0
  have low : ∀ k a, k < n → m1[k]? = some a → m'[k]? = some a := fun k a hk' e => by
    have h1 : k < m.length := by omega
    have h2 := g.pre k (m[k]) (List.getElem?_eq_getElem h1)
    rw [e] at h2
    show (m ++ _)[k]? = some a
    rw [List.getElem?_append_left h1, List.getElem?_eq_getElem h1]
    exact h2.symm
  have inj : ∀ {i j : Nat} {a : Addr}, m1[i]? = some a → m1[j]? = some a → i = j := fun {i j a} e1 e2 => by
    obtain ⟨l1, q1⟩ := List.getElem?_eq_some_iff.mp e1
    obtain ⟨l2, q2⟩ := List.getElem?_eq_some_iff.mp e2
    exact (List.getElem_inj M.nd).mp (q1.trans q2.symm)
  have sF : Sub F1 F' := fun a o e => by
    show (if Dr a then H1 a else F1 a) = some o
    split
    · exact M.sub a o e
    · exact e
  have rep : ∀ (f : Nat) (d : D) (v : V), Rep K F1 m1 d v → Bel (n + ks.length) (froz n ks cs f d) → Rep K F' m' (froz n ks cs f d) v := by
    intro f
    induction f with
    | zero =>
      intro d v h b
      unfold froz at b ⊢
      split at b
      · rename_i hb
        rw [if_pos hb]
        exact Rep.cut sF low d v hb h
      · simp only [Bel] at b
        omega
    | succ f ih =>
      intro d v h b
      cases d with
      | tup ds =>
        simp only [froz, Bel] at b ⊢
        simp only [Rep] at h ⊢
        obtain ⟨a, vs, e, s, r⟩ := h
        exact ⟨a, vs, e, sF.sqt s, RepL.mapf ih ds vs r b⟩
      | lst ds =>
        simp only [froz, Bel] at b ⊢
        simp only [Rep] at h ⊢
        obtain ⟨a, vs, e, s, r⟩ := h
        exact ⟨a, vs, e, sF.sql s, RepL.mapf ih ds vs r b⟩
      | dct k ds =>
        simp only [froz, Bel] at b ⊢
        simp only [Rep] at h ⊢
        obtain ⟨a, vs, e, s, l, r⟩ := h
        exact ⟨a, vs, e, sF.rd s, l, RepL.mapf ih ds vs r b⟩
      | loc k =>
        simp only [Rep] at h
        obtain ⟨a, e, q⟩ := h
        simp only [froz] at b ⊢
        by_cases hkn : k < n
        · rw [if_pos hkn]
          simp only [Rep]
          exact ⟨a, e, low k a hkn q⟩
        · rw [if_neg hkn] at b ⊢
          cases hp : pos? ks k with
          | some j =>
            have hj := pos?_get hp
            simp only [Rep]
            refine ⟨a, e, ?_⟩
            show (m ++ _)[n + j]? = some a
            rw [List.getElem?_append_right (by omega), hl, Nat.add_sub_cancel_left, List.getElem?_map, hj]
            simp [q]
          | none =>
            have hnk := pos?_none hp
            rw [hp] at b
            simp only at b ⊢
            have hD : Dr a := ⟨k, by omega, hnk, q⟩
            have hF' : F' a = H1 a := if_pos hD
            cases hck : cs[k]? with
            | none =>
              rw [hck] at b
              simp only [Bel] at b
              omega
            | some c =>
              rw [hck] at b
              have := M.cell k a c q hck
              cases c with
              | lst ds =>
                obtain ⟨_, vs, h1, h2⟩ := this
                simp only [Bel] at b
                simp only [Rep]
                exact ⟨a, vs, e, .inl (.inl (hF'.trans h1)), RepL.mapf ih ds vs h2 b⟩
              | dic kk ds =>
                obtain ⟨_, vs, h1, h3, h2⟩ := this
                simp only [Bel] at b
                simp only [Rep]
                exact ⟨a, vs, e, .inl (hF'.trans h1), h3, RepL.mapf ih ds vs h2 b⟩
              | gone =>
                simp only [Bel] at b
                omega
      | non => simpa only [froz, Rep] using h
      | bl _ => simpa only [froz, Rep] using h
      | int _ => simpa only [froz, Rep] using h
      | str _ => simpa only [froz, Rep] using h
      | fn _ => simpa only [froz, Rep] using h
      | ty _ => simpa only [froz, Rep] using h
  have Hm' : m'.length = n + ks.length := by
    show (m ++ _).length = _
    rw [List.length_append, List.length_map, hl]
  have get1 : ∀ k, k ∈ ks → ∃ a, m1[k]? = some a ∧ m1.getD k 0 = a := fun k q => by
    have h1 : k < m1.length := by rw [M.len]; exact (hk k q).2
    exact ⟨m1[k], List.getElem?_eq_getElem h1, by simp [h1]⟩
  have inM : ∀ a ∈ m', a ∈ m1 := fun a q => by
    rcases List.mem_append.mp q with q | q
    · obtain ⟨i, hi, e⟩ := List.mem_iff_getElem.mp q
      exact List.mem_of_getElem? (g.pre i a (by rw [List.getElem?_eq_getElem hi, e]))
    · obtain ⟨k, hk1, e⟩ := List.mem_map.mp q
      obtain ⟨a', e1, e2⟩ := get1 k hk1
      rw [e2] at e
      subst e
      exact List.mem_of_getElem? e1
  -- what stands at the places of the new store
  have place : ∀ (i : Nat) (a : Addr) (c' : Cell), m'[i]? = some a → (cs.take n ++ ks.map fun k => frozC n ks cs f (cs.getD k .gone))[i]? = some c' →
      ∃ k c, m1[k]? = some a ∧ cs[k]? = some c ∧ ((k < n ∧ c' = c ∧ BelC n c) ∨ (k ∈ ks ∧ c' = frozC n ks cs f c ∧ BelC (n + ks.length) c')) := fun i a c' e1 e2 => by
    by_cases hi : i < n
    · rw [List.getElem?_append_left (by rw [List.length_take]; omega), List.getElem?_take, if_pos hi] at e2
      have h1 : i < m.length := by omega
      have e3 : (m ++ ks.map fun k => m1.getD k 0)[i]? = some a := e1
      rw [List.getElem?_append_left h1] at e3
      exact ⟨i, c', g.pre i a e3, e2, .inl ⟨hi, rfl, hc i c' hi e2⟩⟩
    · have hlt : (cs.take n).length = n := by rw [List.length_take]; omega
      rw [List.getElem?_append_right (by omega), hlt] at e2
      have e3 : (m ++ ks.map fun k => m1.getD k 0)[i]? = some a := e1
      rw [List.getElem?_append_right (by omega), hl] at e3
      obtain ⟨k, q1, q2⟩ := map_get e2
      obtain ⟨k', q1', q2'⟩ := map_get e3
      rw [q1] at q1'
      cases q1'
      have hmem := List.mem_of_getElem? q1
      obtain ⟨a', z1, z2⟩ := get1 k hmem
      rw [z2] at q2'
      subst q2'
      have hlk := (hk k hmem).2
      have e4 : cs[k]? = some (cs[k]) := List.getElem?_eq_getElem hlk
      have e5 : cs.getD k .gone = cs[k] := by simp [hlk]
      rw [e5] at q2
      subst q2
      exact ⟨k, cs[k], z1, e4, .inr ⟨hmem, rfl, hc2 k _ hmem e4⟩⟩
  refine ⟨F', m', ⟨?_, ?_, ?_, ?_, fun a q => M.has a (inM a q), ?_, M.tab⟩, ⟨g.fro.trans sF, fun k a e => ?_, fun a o e n1 n2 => g.frame a o e n1 n2, fun a q => g.new a (inM a q)⟩, rep f d v r hd⟩
  · intro a o e
    have e' : (if Dr a then H1 a else F1 a) = some o := e
    split at e'
    · exact e'
    · exact M.sub a o e'
  · rw [Hm', List.length_append, List.length_map, List.length_take]
    omega
  · refine List.nodup_append.mpr ⟨M0.nd, ?_, ?_⟩
    · refine List.pairwise_map.mpr ?_
      refine List.Pairwise.imp_of_mem (fun {i j} hi hj hij => ?_) hks
      obtain ⟨a, e1, e2⟩ := get1 i hi
      obtain ⟨b, e3, e4⟩ := get1 j hj
      rw [e2, e4]
      intro z
      subst z
      exact hij (inj e1 e3)
    · intro a ha b hb z
      subst z
      obtain ⟨i, hi, e⟩ := List.mem_iff_getElem.mp ha
      obtain ⟨k, hk1, e'⟩ := List.mem_map.mp hb
      obtain ⟨a', e1, e2⟩ := get1 k hk1
      rw [e2] at e'
      subst e'
      have := inj (g.pre i a' (by rw [List.getElem?_eq_getElem hi, e])) e1
      have := (hk k hk1).1
      omega
  · intro i a c' e1 e2
    obtain ⟨k, c, z1, z2, z⟩ := place i a c' e1 e2
    have hnD : ¬ Dr a := fun ⟨k', q1, q2, q3⟩ => by
      have := inj q3 z1
      subst this
      rcases z with ⟨z, _⟩ | ⟨z, _⟩
      · omega
      · exact q2 z
    have hFa : F' a = F1 a := if_neg hnD
    have ok := M.cell k a c z1 z2
    rcases z with ⟨hkn, e, hb⟩ | ⟨hks1, e, hb⟩
    · subst e
      cases c' with
      | lst ds => obtain ⟨h1, vs, h2, h3⟩ := ok; exact ⟨hFa.trans h1, vs, h2, RepL.cut sF low ds vs hb h3⟩
      | dic kk ds => obtain ⟨h1, vs, h2, h4, h3⟩ := ok; exact ⟨hFa.trans h1, vs, h2, h4, RepL.cut sF low ds vs hb h3⟩
      | gone => trivial
    · subst e
      cases c with
      | lst ds => obtain ⟨h1, vs, h2, h3⟩ := ok; exact ⟨hFa.trans h1, vs, h2, RepL.mapf (rep f) ds vs h3 hb⟩
      | dic kk ds => obtain ⟨h1, vs, h2, h4, h3⟩ := ok; exact ⟨hFa.trans h1, vs, h2, h4, RepL.mapf (rep f) ds vs h3 hb⟩
      | gone => trivial
  · intro a ps e
    have e' : (if Dr a then H1 a else F1 a) = some (.tbl ps) := e
    split at e'
    · rename_i hD
      obtain ⟨k, _, _, q⟩ := hD
      obtain ⟨o, ho, hc⟩ := M.has a (List.mem_of_getElem? q)
      rw [e'] at ho
      exact hc.nt ps (Option.some.inj ho).symm
    · exact M.nt a ps e'
  · exact low k a (by have := (List.getElem?_eq_some_iff.mp e).1; omega) (g.pre k a e)
theorem froz_bel {ks : List Nat} {cs : CsL} : ∀ (f : Nat) (d : D), Bel n d → froz n ks cs f d = d := by
  intro f
  induction f with
  | zero => intro d h; unfold froz; rw [if_pos h]
  | succ f ih =>
    have mp : ∀ ds : List D, BelL n ds → ds.map (froz n ks cs f) = ds := fun ds h => by
      conv => rhs; rw [← List.map_id ds]
      exact List.map_congr_left fun d q => ih d (BelL.all h d q)
    intro d h
    cases d with
    | tup ds => simp only [Bel] at h; simp only [froz, mp ds h]
    | lst ds => simp only [Bel] at h; simp only [froz, mp ds h]
    | dct k ds => simp only [Bel] at h; simp only [froz, mp ds h]
    | loc k => simp only [Bel] at h; simp only [froz, if_pos h]
    | _ => simp only [froz]
/-- the common end: no cell is kept -/
theorem lands_drop (f : Nat) {d : D} (hd : Bel n (froz n [] cs f d)) (hn : n ≤ cs.length) (hc : ∀ (k : Nat) (c : Cell), k < n → cs[k]? = some c → BelC n c) : Lands K T n d cs (froz n [] cs f d) (cs.take n) := by
  have := lands_keep (K := K) (T := T) (n := n) (cs := cs) [] f (d := d) .nil (fun k q => by cases q) hd hn hc (fun k c q => by cases q)
  simpa using this
/-- .. of a tree that names none of them, over cells as they were -/
theorem lands_same {cs G : CsL} {d : D} (hd : Bel cs.length d) (hc : ∀ c ∈ cs, BelC cs.length c) : Lands K T cs.length d (cs ++ G) d cs := by
  have := lands_drop (K := K) (T := T) (n := cs.length) (cs := cs ++ G) 0 (d := d) (by rw [froz_bel 0 d hd]; exact hd) (by simp) (fun k c q e => by
    rw [List.getElem?_append_left q] at e
    exact hc c (List.mem_of_getElem? e))
  rw [froz_bel 0 d hd] at this
  simpa using this
end
end Sim


/-! Sim, part D: statements, calls, defs. -/
namespace Sim
open PySem PySem.Spec PyProof.Rows L2

section
variable {B : Bx} {a b c e : Expr} {es : List Expr} {st : Stmt} {rest body orelse : List Stmt} {ta tb tc te : TED} {tA : TTD} {tr : TAD} {t u : TSD} {pos : Pos}
def sNext : TSD := fun _ sl cs P => P.nx sl cs
def sSeq (t u : TSD) : TSD := fun Ex sl cs P => t Ex sl cs { P with nx := fun sl1 cs1 => u Ex sl1 cs1 P }
theorem simSs_nil : SimSs B [] sNext := PSs.to pss_nil fun Dn σ H ⟨F, m, cs, sl, Ex, P, A, X, h, k⟩ => k.nx F m H cs sl σ h A .refl
theorem simSs_cons (h1 : SimS B st t) (h2 : SimSs B rest u) : SimSs B (st :: rest) (sSeq t u) := PSs.to (pss_cons h1 h2) fun Dn σ H ⟨F, m, cs, sl, Ex, P, A, X, h, k⟩ =>
  ⟨F, m, cs, sl, Ex, _, A, X, h, ⟨fun F' m' H' cs' sl' σ' p a g => ⟨F', m', cs', sl', Ex, P, a, X, p, k.step g⟩, k.rt, k.bk, k.ct⟩⟩
theorem simSs_one (h1 : SimS B st t) : SimSs B [st] t := pss_one h1
theorem simS_pass : SimS B (.Pass pos) sNext := PS.to ps_pass fun Dn σ H ⟨F, m, cs, sl, Ex, P, A, X, h, k⟩ => k.nx F m H cs sl σ h A .refl
def sBreak : TSD := fun _ sl cs P => P.bk sl cs
def sCont : TSD := fun _ sl cs P => P.ct sl cs
theorem simS_break : SimS B (.Break pos) sBreak := PS.to ps_break fun Dn σ H ⟨F, m, cs, sl, Ex, P, A, X, h, k⟩ => k.bk F m H cs sl σ h A .refl
theorem simS_continue : SimS B (.Continue pos) sCont := PS.to ps_continue fun Dn σ H ⟨F, m, cs, sl, Ex, P, A, X, h, k⟩ => k.ct F m H cs sl σ h A .refl
theorem simS_doc {x j p p'} : SimS B (.Expr (.Constant (.str x) j p) p') sNext := PS.to ps_doc fun Dn σ H ⟨F, m, cs, sl, Ex, P, A, X, h, k⟩ => k.nx F m H cs sl σ h A .refl
def sDrop (te : TED) : TSD := fun Ex sl cs P => te Ex sl cs fun _ cs1 => P.nx sl cs1
theorem simS_expr (he : SimE B e te) (hs : swapsWith e none pos.line B.X.env = pure false := by rfl) : SimS B (.Expr e pos) (sDrop te) := PS.to (ps_expr he hs) fun Dn σ H ⟨F, m, cs, sl, Ex, P, A, X, h, k⟩ =>
  ⟨F, m, cs, sl, Ex, _, A, X, h, fun F' m' H' cs' d v p M g r => k.nx F' m' H' cs' sl σ p (A.step M g) g⟩
def sRet (te : TED) : TSD := fun Ex sl cs P => te Ex sl cs P.rt
theorem simS_ret (he : SimE B e te) : SimS B (.Return (some e) pos) (sRet te) := PS.to (ps_ret he) fun Dn σ H ⟨F, m, cs, sl, Ex, P, A, X, h, k⟩ =>
  ⟨F, m, cs, sl, Ex, _, A, X, h, fun F' m' H' cs' d v p M g r => k.rt F' m' H' cs' d v p M g r⟩
def sRetN : TSD := fun _ _ cs P => P.rt .non cs
theorem simS_retN : SimS B (.Return none pos) sRetN := PS.to ps_retN fun Dn σ H ⟨F, m, cs, sl, Ex, P, A, X, h, k⟩ => k.rt F m H cs .non .non h A.mem .refl (by simp only [Rep])
def sIf (c : TTD) (t u : TSD) : TSD := fun Ex sl cs P => c Ex sl cs fun b cs1 => if b = true then t Ex sl cs1 P else u Ex sl cs1 P
theorem simS_if (hc : SimT B c tA) (ha : SimSs B body t) (hb : SimSs B orelse u) : SimS B (.If c body orelse pos) (sIf tA t u) := PS.to (ps_if hc ha hb) fun Dn σ H ⟨F, m, cs, sl, Ex, P, A, X, h, k⟩ =>
  ⟨F, m, cs, sl, Ex, _, A, X, h, fun F' m' H' cs' b p M g => by
    cases b with
    | true =>
      rw [if_pos rfl] at p ⊢
      exact ⟨F', m', cs', sl, Ex, P, A.step M g, X, p, k.step g⟩
    | false =>
      rw [if_neg Bool.false_ne_true] at p ⊢
      exact ⟨F', m', cs', sl, Ex, P, A.step M g, X, p, k.step g⟩⟩
/-- code that is never come to -/
def sNever : TSD := fun _ _ _ _ => False
theorem simS_never : SimS B st sNever := PS.to ps_never fun Dn σ H ⟨F, m, cs, sl, Ex, P, A, X, h, k⟩ => h

/-! ### targets -/
abbrev TGD := D → Sl → CsL → (Sl → CsL → Prop) → Prop
abbrev TGsD := List D → Sl → CsL → (Sl → CsL → Prop) → Prop
def liftG (B : Bx) (g : TGD) : TG := fun v σ H Q => ∃ (F : Hp) (m : List Addr) (cs : CsL) (sl : Sl) (d : D) (P : Sl → CsL → Prop), At B.X.K B.T B.w σ sl H cs F m ∧ Rep B.X.K F m d v ∧ g d sl cs P ∧
  ∀ (F' : Hp) (m' : List Addr) (H' : Hp) (cs' : CsL) (sl' : Sl) (σ' : St), P sl' cs' → At B.X.K B.T B.w σ' sl' H' cs' F' m' → Grow F m H F' m' H' → Q σ' H'
def liftGs (B : Bx) (g : TGsD) : TGs := fun vs σ H Q => ∃ (F : Hp) (m : List Addr) (cs : CsL) (sl : Sl) (ds : List D) (P : Sl → CsL → Prop), At B.X.K B.T B.w σ sl H cs F m ∧ RepL B.X.K F m ds vs ∧ g ds sl cs P ∧
  ∀ (F' : Hp) (m' : List Addr) (H' : Hp) (cs' : CsL) (sl' : Sl) (σ' : St), P sl' cs' → At B.X.K B.T B.w σ' sl' H' cs' F' m' → Grow F m H F' m' H' → Q σ' H'
def SimG (B : Bx) (e : Expr) (g : TGD) : Prop := PG B.X e (liftG B g)
def SimGs (B : Bx) (e : List Expr) (g : TGsD) : Prop := PGs B.X e (liftGs B g)
theorem PG.to {X : Cx} {e : Expr} {t u : TG} (h : PG X e t) (hu : ∀ v σ H Q, u v σ H Q → t v σ H Q) : PG X e u := ⟨fun pins s σ H v w Q I r q => h.run pins s σ H v w Q I r (hu _ _ _ _ q)⟩
theorem PGs.to {X : Cx} {e : List Expr} {t u : TGs} (h : PGs X e t) (hu : ∀ v σ H Q, u v σ H Q → t v σ H Q) : PGs X e u := ⟨fun pins s σ H v w Q I r q => h.run pins s σ H v w Q I r (hu _ _ _ _ q)⟩
def tgName (i : Nat) : TGD := fun d sl cs Q => Q (sl.set i (some d)) cs
theorem simG_name (i : Nat) (h : PG B.X e (gName i)) : SimG B e (tgName i) := PG.to h fun v σ H Q ⟨F, m, cs, sl, d, P, A, r, h, k⟩ => k F m H cs _ _ h (A.set r) .refl
def tgNil : TGsD := fun ds sl cs Q => match ds with | [] => Q sl cs | _ => False
def tgCons (g : TGD) (gs : TGsD) : TGsD := fun ds sl cs Q => match ds with | d :: r => g d sl cs fun sl1 cs1 => gs r sl1 cs1 Q | _ => False
theorem simGs_nil : SimGs B [] tgNil := PGs.to pgs_nil fun vs σ H Q ⟨F, m, cs, sl, ds, P, A, r, h, k⟩ => by
  cases ds with
  | nil =>
    simp only [RepL] at r
    exact ⟨r, k F m H cs sl σ h A .refl⟩
  | cons d ds => exact h.elim
theorem simGs_cons {g : TGD} {gs : TGsD} (h1 : SimG B e g) (h2 : SimGs B es gs) (hs : (assignEach (e :: es) B.X.env).map (·.2) = assign e B.X.env :: (assignEach es B.X.env).map (·.2) := by rfl) : SimGs B (e :: es) (tgCons g gs) :=
  PGs.to (pgs_cons h1 h2 hs) fun vs σ H Q ⟨F, m, cs, sl, ds, P, A, r, h, k⟩ => by
    cases ds with
    | nil => exact h.elim
    | cons d ds =>
      simp only [RepL] at r
      obtain ⟨v, w, e, r1, r2⟩ := r
      exact ⟨v, w, e, F, m, cs, sl, d, _, A, r1, h, fun F1 m1 H1 cs1 sl1 σ1 p1 A1 g1 => ⟨F1, m1, cs1, sl1, ds, P, A1, g1.repL r2, p1, fun F2 m2 H2 cs2 sl2 σ2 p2 A2 g2 => k F2 m2 H2 cs2 sl2 σ2 p2 A2 (g1.trans g2)⟩⟩
def tgTup (n : Nat) (gs : TGsD) : TGD := fun d sl cs Q => match d with | .tup ds => ds.length = n ∧ gs ds sl cs Q | _ => False
theorem simG_tup {n k : Nat} {gs : TGsD} (hc : B.X.calm = true) (h : SimGs B es gs) (hn : (assignEach es B.X.env).length = n := by rfl) (hst : (assignEach es B.X.env).findIdx? (·.1) = none := by rfl) : SimG B (.Tuple es k pos) (tgTup n gs) :=
  PG.to (pg_tup hc h hn hst) fun v σ H Q ⟨F, m, cs, sl, d, P, A, r, h, k⟩ => by
    cases d with
    | tup ds =>
      simp only [Rep] at r
      obtain ⟨a, vs, e, s, rl⟩ := r
      obtain ⟨hl, h⟩ := h
      exact ⟨a, vs, e, A.mem.sub.sqt s, by rw [← rl.length, hl], F, m, cs, sl, ds, P, A, rl, h, k⟩
    | _ => exact h.elim
def sAsg (te : TED) (g : TGD) : TSD := fun Ex sl cs P => te Ex sl cs fun d cs1 => g d sl cs1 P.nx
theorem simS_asg {g : TGD} (he : SimE B e te) (hg : SimG B a g) (hs : swapsWithSole [a] e pos.line B.X.env = pure false := by rfl) (hw : swappedStores [a] e B.X.env = pure none := by rfl)
    (h1 : (assignEach [a] B.X.env).map (·.2) = [assign a B.X.env] := by rfl) : SimS B (.Assign [a] e pos) (sAsg te g) := PS.to (ps_asg he hg hs hw h1) fun Dn σ H ⟨F, m, cs, sl, Ex, P, A, X, h, k⟩ =>
  ⟨F, m, cs, sl, Ex, _, A, X, h, fun F' m' H' cs' d v p M g r => ⟨F', m', cs', sl, d, _, A.step M g, r, p, fun F2 m2 H2 cs2 sl2 σ2 p2 A2 g2 => k.nx F2 m2 H2 cs2 sl2 σ2 p2 A2 (g.trans g2)⟩⟩
def sSet (i : Nat) (te : TED) : TSD := fun Ex sl cs P => te Ex sl cs fun d cs1 => P.nx (sl.set i (some d)) cs1
theorem simS_set (i : Nat) {x : Str} {pos' : Pos} (hN : B.X.N.Nodup) (he : SimE B e te) (hi : B.X.N[i]? = some x := by rfl) (hx : Loc B.X.env.scope x := by first | exact Or.inl rfl | exact Or.inr rfl) (hs : swapsWith e (some (.Name x pos')) pos.line B.X.env = pure false := by rfl)
    (hf : B.X.fn x = true ∨ B.X.env.scope.names.lookup x = some .local := by first | exact .inl rfl | exact .inr rfl) : SimS B (.Assign [.Name x pos'] e pos) (sSet i te) := PS.to (ps_set hN hi hx he hs hf) fun Dn σ H ⟨F, m, cs, sl, Ex, P, A, X, h, k⟩ =>
  ⟨F, m, cs, sl, Ex, _, A, X, h, fun F' m' H' cs' d v p M g r => k.nx F' m' H' cs' _ _ p ((A.step M g).set r) g⟩
/-- a, b = x, y -/
def sPar (i j : Nat) (ta tb : TED) : TSD := fun Ex sl cs P => ta Ex sl cs fun d cs1 => tb Ex sl cs1 fun e cs2 => P.nx ((sl.set i (some d)).set j (some e)) cs2
theorem simS_par (i j : Nat) {x y : Str} {px py pt : Pos} {kt k2 pt2} (hc : B.X.calm = true) (hN : B.X.N.Nodup) (ha : SimE B a ta) (hb : SimE B b tb) (hi : B.X.N[i]? = some x := by rfl) (hj : B.X.N[j]? = some y := by rfl) (hij : i ≠ j := by decide)
    (hx : B.X.env.scope.names.lookup x = some .local := by rfl) (hy : B.X.env.scope.names.lookup y = some .local := by rfl)
    (hw : swappedStores [.Tuple [.Name x px, .Name y py] kt pt] (.Tuple [a, b] k2 pt2) B.X.env = pure (some [x, y]) := by rfl)
    (hs : swapsWithSole [.Tuple [.Name x px, .Name y py] kt pt] (.Tuple [a, b] k2 pt2) pos.line B.X.env = pure false := by rfl)
    (h1 : starEach (a :: [b]) B.X.env = (false, eval a B.X.env) :: starEach [b] B.X.env := by rfl) (h2 : starEach (b :: []) B.X.env = (false, eval b B.X.env) :: starEach [] B.X.env := by rfl) :
    SimS B (.Assign [.Tuple [.Name x px, .Name y py] kt pt] (.Tuple [a, b] k2 pt2) pos) (sPar i j ta tb) := PS.to (ps_par hc hN hi hj hij hx hy (simA_cons ha (simA_cons hb simA_nil h2) h1) hw hs) fun Dn σ H ⟨F, m, cs, sl, Ex, P, A, X, h, k⟩ =>
  ⟨F, m, cs, sl, Ex, fun ds cs' => match ds with | [d, e] => P.nx ((sl.set i (some d)).set j (some e)) cs' | _ => False, A, X, h, fun F' m' H' cs' ds vs p M g r => by
    match ds, p with
    | [d, e], p =>
      simp only [RepL] at r
      obtain ⟨v, w, rfl, r1, u, w', rfl, r2, rfl⟩ := r
      exact ⟨v, u, rfl, k.nx F' m' H' cs' _ _ p (((A.step M g).set r1).set r2) g⟩⟩

/-! ### while -/
def whileD (c : TTD) (b : TSD) (Ex : ExW) : Nat → Sl → CsL → EndsD → Prop
  | 0, _, _, _ => False
  | n + 1, sl, cs, P => c Ex sl cs fun k cs1 => if k = true then b Ex sl cs1 { P with nx := fun sl2 cs2 => whileD c b Ex n sl2 cs2 P, ct := fun sl2 cs2 => whileD c b Ex n sl2 cs2 P, bk := P.nx } else P.nx sl cs1
def sWhile (c : TTD) (b : TSD) : TSD := fun Ex sl cs P => ∃ n, whileD c b Ex n sl cs P
theorem simS_while (hp : PassesOwn (model B.X.prog B.X.w) B.X.A B.X.env B.X.xe) (hc : SimT B c tA) (hb : SimSs B body t) : SimS B (.While c body [] pos) (sWhile tA t) := PS.to (ps_while hp hc hb) fun Dn σ H ⟨F, m, cs, sl, Ex, P, A, X, ⟨n, h⟩, k⟩ => by
  refine ⟨fun n σ' H' => ∃ F' m' cs' sl', At B.X.K B.T B.w σ' sl' H' cs' F' m' ∧ Grow F m H F' m' H' ∧ whileD tA t Ex n sl' cs' P, ⟨n, F, m, cs, sl, A, .refl, h⟩, ?_⟩
  rintro n σ1 H1 ⟨F1, m1, cs1, sl1, A1, g1, h1⟩
  cases n with
  | zero => exact h1.elim
  | succ n =>
    refine ⟨F1, m1, cs1, sl1, Ex, _, A1, X, h1, fun F2 m2 H2 cs2 b p M g => ?_⟩
    cases b with
    | true =>
      rw [if_pos rfl] at p ⊢
      refine ⟨fun σ3 H3 => ∃ F3 m3 cs3 sl3, At B.X.K B.T B.w σ3 sl3 H3 cs3 F3 m3 ∧ Grow F m H F3 m3 H3 ∧ whileD tA t Ex n sl3 cs3 P, fun σ3 H3 q => ⟨n, Nat.lt_succ_self _, q⟩, F2, m2, cs2, sl1, Ex, _, A1.step M g, X, p, ?_, ?_, ?_, ?_⟩
      · intro F3 m3 H3 cs3 sl3 σ3 p3 A3 g3
        exact ⟨F3, m3, cs3, sl3, A3, (g1.trans g).trans g3, p3⟩
      · intro F3 m3 H3 cs3 d v p3 M3 g3 r3
        exact k.rt F3 m3 H3 cs3 d v p3 M3 ((g1.trans g).trans g3) r3
      · intro F3 m3 H3 cs3 sl3 σ3 p3 A3 g3
        exact k.nx F3 m3 H3 cs3 sl3 σ3 p3 A3 ((g1.trans g).trans g3)
      · intro F3 m3 H3 cs3 sl3 σ3 p3 A3 g3
        exact ⟨F3, m3, cs3, sl3, A3, (g1.trans g).trans g3, p3⟩
    | false =>
      rw [if_neg Bool.false_ne_true] at p ⊢
      exact k.nx F2 m2 H2 cs2 sl1 σ1 p (A1.step M g) (g1.trans g)

/-! ### for -/
/-- items one by one; ck: what is walked stands still -/
def forD (ck : CsL → Prop) (g : TGD) (b : TSD) (Ex : ExW) : List D → Sl → CsL → EndsD → Prop
  | [], sl, cs, P => ck cs ∧ P.nx sl cs
  | x :: xs, sl, cs, P => ck cs ∧ g x sl cs fun sl1 cs1 => b Ex sl1 cs1 { P with nx := fun sl2 cs2 => forD ck g b Ex xs sl2 cs2 P, ct := fun sl2 cs2 => forD ck g b Ex xs sl2 cs2 P, bk := P.nx }
/-- what is walked: its items, and that it stands still -/
def walkOf (d : D) (cs : CsL) (k : List D → (CsL → Prop) → Prop) : Prop := match d with
  | .tup ds => k ds fun _ => True
  | .lst ds => k ds fun _ => True
  | .str x => k (x.cps.toList.map fun c => D.str ⟨#[c]⟩) fun _ => True
  | .loc n => match cs[n]? with
    | some (.lst ds) => k ds fun cs' => cs'[n]? = some (.lst ds)
    | _ => False
  | _ => False
/-- an iterator below that yields what is told above -/
def ItS (B : Bx) (J : It) (F : Hp) (m : List Addr) (H : Hp) (ds : List D) (ck : CsL → Prop) : Prop :=
  ∀ (i : Nat) (F' : Hp) (m' : List Addr) (H' : Hp) (cs' : CsL), Mem B.X.K B.T F' m' H' cs' → Grow F m H F' m' H' → ck cs' →
    (ds.length ≤ i → J.stop i H') ∧ ∀ d, ds[i]? = some d → J.go i H' ∧ ∀ x H'', J.yld i H' x H'' → H'' = H' ∧ Rep B.X.K F' m' d x
def iAny (K : PySem.W.Frag) (tl : TE) : TI := fun σ H R => tl σ H fun x H1 => (∃ a, x = .ref a ∧ (∃ xs, SqL K H1 a xs) ∧ R (Itl K a) H1) ∨ (∃ a, x = .ref a ∧ (∃ xs, SqT K H1 a xs) ∧ R (Itt K a) H1) ∨ (∃ z, x = .str z ∧ R (Its z) H1)
theorem pi_any {X : Cx} {tg l : Expr} {tl : TE} (hl : PE X l tl) : PI X tg l (iAny X.K tl) := by
  refine ⟨fun pins s σ H R I h => ?_⟩
  refine thn (hl.run pins s σ H _ I h) fun v s1 ⟨x, H1, I1, r1, q1⟩ => ?_
  rcases q1 with ⟨a, e, ⟨xs, hq⟩, q⟩ | ⟨a, e, ⟨xs, hq⟩, q⟩ | ⟨z, e, q⟩
  · subst e
    cases r1
    obtain ⟨its, rv, p, hz⟩ := I1.list hq
    refine wpAny_pyIter_list p.isList ?_
    refine ⟨s1.heap.objs.size, [s1.heap.objs.size], _, _, H1, rfl, I1.kept (t' := s1.toks) fun b o e => Heap.get?_push_of_some _ e, turn_list a _, ⟨_, Heap.get?_push_size _ rfl, rfl, rfl⟩, fun b hb => ?_, q⟩
    have e : b = s1.heap.objs.size := by simpa using hb
    subst e
    exact I1.fpOk (Nat.le_refl _) (I1.hok.fresh (Nat.le_refl _))
  · subst e
    cases r1
    obtain ⟨its, rv, p, hz⟩ := I1.tuple hq
    refine wpAny_pyIter_tuple (show s1.heap.IsTuple a its.toArray from p) ?_
    refine ⟨s1.heap.objs.size, [s1.heap.objs.size], _, _, H1, rfl, I1.kept (t' := s1.toks) fun b o e => Heap.get?_push_of_some _ e, turn_tuple a _, ⟨_, Heap.get?_push_size _ rfl, rfl, rfl⟩, fun b hb => ?_, q⟩
    have e : b = s1.heap.objs.size := by simpa using hb
    subst e
    exact I1.fpOk (Nat.le_refl _) (I1.hok.fresh (Nat.le_refl _))
  · subst e
    obtain ⟨t, rfl⟩ := r1
    cases ha : z.cps.all (· < 128)
    · exact wpAny_pyIter_wide ha (pi_one (tk := s1.toks) I1 _ (turn_str _ z t "str_iterator" (.inr rfl)) ⟨_, Heap.get?_push_size _ rfl, rfl, rfl⟩ q)
    · exact wpAny_pyIter_ascii ha (pi_one (tk := s1.toks) I1 _ (turn_str _ z t "str_ascii_iterator" (.inl rfl)) ⟨_, Heap.get?_push_size _ rfl, rfl, rfl⟩ q)
/-- lists as they stand are one -/
def LstAt (K : PySem.W.Frag) (H : Hp) (a : Addr) (vs : List V) : Prop := ∀ ws, SqL K H a ws → ws = vs
/-- what is walked, over trees -/
abbrev TWD := ExW → Sl → CsL → (List D → (CsL → Prop) → CsL → Prop) → Prop
def liftI (B : Bx) (t : TWD) : TI := fun σ H R => ∃ (F : Hp) (m : List Addr) (cs : CsL) (sl : Sl) (Ex : ExW) (P : List D → (CsL → Prop) → CsL → Prop), At B.X.K B.T B.w σ sl H cs F m ∧ ExOk B.X.K B.T B.w B.E Ex ∧ t Ex sl cs P ∧
  ∀ (F' : Hp) (m' : List Addr) (H' : Hp) (cs' : CsL) (ds : List D) (ck : CsL → Prop) (J : It), P ds ck cs' → Mem B.X.K B.T F' m' H' cs' → Grow F m H F' m' H' → ItS B J F' m' H' ds ck → R J H'
def SimI (B : Bx) (tg e : Expr) (t : TWD) : Prop := PI B.X tg e (liftI B t)
theorem PI.to {X : Cx} {tg e : Expr} {t u : TI} (h : PI X tg e t) (hu : ∀ σ H Q, u σ H Q → t σ H Q) : PI X tg e u := ⟨fun pins s σ H Q I q => h.run pins s σ H Q I (hu _ _ _ q)⟩
def wAny (te : TED) : TWD := fun Ex sl cs Q => te Ex sl cs fun d cs1 => walkOf d cs1 fun ds ck => Q ds ck cs1
def wRange (lo : Int) (n : Nat) : List D := (List.range n).map fun i => D.int (lo + (i : Nat))
def sFor (w : TWD) (g : TGD) (b : TSD) : TSD := fun Ex sl cs P => w Ex sl cs fun ds ck cs1 => forD ck g b Ex ds sl cs1 P
theorem forD_ck {ck : CsL → Prop} {g : TGD} {b : TSD} {Ex : ExW} : ∀ {ds : List D} {sl : Sl} {cs : CsL} {P : EndsD}, forD ck g b Ex ds sl cs P → ck cs
  | [], _, _, _, h => h.1
  | _ :: _, _, _, _, h => h.1
theorem simS_for {w : TWD} {g : TGD} {iter : Expr} (hp : PassesOwn (model B.X.prog B.X.w) B.X.A B.X.env B.X.xe) (hc : B.X.calm = true) (hi : SimI B a iter w) (hg : SimG B a g) (hb : SimSs B body t)
    (hs : ∀ x, foldedSetIterable iter B.X.env x = pure x := by intro _; rfl) : SimS B (.For a iter body [] pos) (sFor w g t) := PS.to (ps_for hp hc hi hg hb hs) fun Dn σ H ⟨F, m, cs, sl, Ex, P, A, X, h, k⟩ => by
  refine ⟨F, m, cs, sl, Ex, _, A, X, h, fun F1 m1 H1 cs1 ds ck J p M g1 hJ => ?_⟩
  refine ⟨fun i n σ' H' => n = ds.length - i ∧ i ≤ ds.length ∧ ∃ F' m' cs' sl', At B.X.K B.T B.w σ' sl' H' cs' F' m' ∧ Grow F1 m1 H1 F' m' H' ∧ forD ck g t Ex (ds.drop i) sl' cs' P, ⟨ds.length, by simp, Nat.zero_le _, F1, m1, cs1, sl, A.step M g1, .refl, by simpa using p⟩, ?_⟩
  rintro i n σ' H' ⟨rfl, hi, F', m', cs', sl', A', g', h'⟩
  have hck := forD_ck h'
  obtain ⟨hstop, hgo⟩ := hJ i F' m' H' cs' A'.mem g' hck
  by_cases hlt : i < ds.length
  · refine .inr ?_
    have e : ds[i]? = some (ds[i]) := List.getElem?_eq_getElem hlt
    obtain ⟨go, yl⟩ := hgo _ e
    rw [List.drop_eq_getElem_cons hlt] at h'
    refine ⟨go, fun σ3 H3 => ∃ F3 m3 cs3 sl3, At B.X.K B.T B.w σ3 sl3 H3 cs3 F3 m3 ∧ Grow F1 m1 H1 F3 m3 H3 ∧ forD ck g t Ex (ds.drop (i + 1)) sl3 cs3 P, fun σ3 H3 q => ⟨ds.length - (i + 1), by omega, rfl, hlt, q⟩, fun x H'' y => ?_⟩
    obtain ⟨e1, r⟩ := yl x H'' y
    subst e1
    refine ⟨F', m', cs', sl', _, _, A', r, h'.2, fun F2 m2 H2 cs2 sl2 σ2 p2 A2 g2 => ?_⟩
    refine ⟨F2, m2, cs2, sl2, Ex, _, A2, X, p2, ?_, ?_, ?_, ?_⟩
    · intro F3 m3 H3 cs3 sl3 σ3 p3 A3 g3
      exact ⟨F3, m3, cs3, sl3, A3, (g'.trans g2).trans g3, p3⟩
    · intro F3 m3 H3 cs3 d v p3 M3 g3 r3
      exact k.rt F3 m3 H3 cs3 d v p3 M3 ((g1.trans (g'.trans g2)).trans g3) r3
    · intro F3 m3 H3 cs3 sl3 σ3 p3 A3 g3
      exact k.nx F3 m3 H3 cs3 sl3 σ3 p3 A3 ((g1.trans (g'.trans g2)).trans g3)
    · intro F3 m3 H3 cs3 sl3 σ3 p3 A3 g3
      exact ⟨F3, m3, cs3, sl3, A3, (g'.trans g2).trans g3, p3⟩
  · have e : i = ds.length := by omega
    subst e
    rw [List.drop_length] at h'
    exact .inl ⟨hstop (Nat.le_refl _), k.nx F' m' H' cs' sl' σ' h'.2 A' (g1.trans g')⟩
theorem itS_list {J : It} {F : Hp} {m : List Addr} {H : Hp} {ds : List D} {ck : CsL → Prop} {a : Addr} (hJ : J = Itl B.X.K a)
    (h : ∀ (F' : Hp) (m' : List Addr) (H' : Hp) (cs' : CsL), Mem B.X.K B.T F' m' H' cs' → Grow F m H F' m' H' → ck cs' → ∃ vs, SqL B.X.K H' a vs ∧ RepL B.X.K F' m' ds vs) : ItS B J F m H ds ck := fun i F' m' H' cs' M g c => by
  subst hJ
  obtain ⟨vs, hq, r⟩ := h F' m' H' cs' M g c
  refine ⟨fun hl => ⟨vs, hq, by rw [← r.length]; exact hl⟩, fun d e => ?_⟩
  obtain ⟨v, e', rv⟩ := r.get e
  refine ⟨⟨vs, v, hq, e'⟩, fun x H'' y => ?_⟩
  obtain ⟨e1, y⟩ := y
  have := y vs hq
  rw [e'] at this
  cases this
  exact ⟨e1, rv⟩
theorem itS_tup {J : It} {F : Hp} {m : List Addr} {H : Hp} {ds : List D} {ck : CsL → Prop} {a : Addr} (hJ : J = Itt B.X.K a)
    (h : ∀ (F' : Hp) (m' : List Addr) (H' : Hp) (cs' : CsL), Mem B.X.K B.T F' m' H' cs' → Grow F m H F' m' H' → ck cs' → ∃ vs, SqT B.X.K H' a vs ∧ RepL B.X.K F' m' ds vs) : ItS B J F m H ds ck := fun i F' m' H' cs' M g c => by
  subst hJ
  obtain ⟨vs, hq, r⟩ := h F' m' H' cs' M g c
  refine ⟨fun hl => ⟨vs, hq, by rw [← r.length]; exact hl⟩, fun d e => ?_⟩
  obtain ⟨v, e', rv⟩ := r.get e
  refine ⟨⟨vs, v, hq, e'⟩, fun x H'' y => ?_⟩
  obtain ⟨e1, y⟩ := y
  have := y vs hq
  rw [e'] at this
  cases this
  exact ⟨e1, rv⟩
theorem simI_any {tg : Expr} (he : SimE B e te) : SimI B tg e (wAny te) := PI.to (pi_any he) fun σ H R ⟨F, m, cs, sl, Ex, P, A, X, h, k⟩ =>
  ⟨F, m, cs, sl, Ex, _, A, X, h, fun F1 m1 H1 cs1 d v p M g r => by
    cases d with
    | tup ds =>
      simp only [Rep] at r
      obtain ⟨a, vs, e, s, rl⟩ := r
      exact .inr (.inl ⟨a, e, ⟨vs, M.sub.sqt s⟩, k F1 m1 H1 cs1 ds _ _ p M g (itS_tup rfl fun F' m' H' cs' M' g' _ => ⟨vs, M'.sub.sqt (g'.fro.sqt s), g'.repL rl⟩)⟩)
    | lst ds =>
      simp only [Rep] at r
      obtain ⟨a, vs, e, s, rl⟩ := r
      exact .inl ⟨a, e, ⟨vs, M.sub.sql s⟩, k F1 m1 H1 cs1 ds _ _ p M g (itS_list rfl fun F' m' H' cs' M' g' _ => ⟨vs, M'.sub.sql (g'.fro.sql s), g'.repL rl⟩)⟩
    | str z =>
      simp only [Rep] at r
      refine .inr (.inr ⟨z, r, k F1 m1 H1 cs1 _ _ _ p M g fun i F' m' H' cs' M' g' _ => ⟨fun hl => ?_, fun d e => ?_⟩⟩)
      · have hl' : z.cps.size ≤ i := by simpa using hl
        exact hl'
      · rw [List.getElem?_map] at e
        cases q : z.cps.toList[i]? with
        | none => rw [q] at e; cases e
        | some c =>
          rw [q] at e
          cases e
          have q' : z.cps[i]? = some c := by simpa using q
          refine ⟨(Array.getElem?_eq_some_iff.mp q').1, fun x H'' y => ?_⟩
          obtain ⟨e1, c', e2, e3⟩ := y
          rw [q'] at e2
          cases e2
          exact ⟨e1, by simp only [Rep]; exact e3⟩
    | loc n =>
      simp only [Rep] at r
      obtain ⟨a, e, q⟩ := r
      simp only [walkOf] at p
      cases hc : cs1[n]? with
      | none => simp only [hc] at p
      | some c =>
        simp only [hc] at p
        cases c with
        | lst ds =>
          have cell : ∀ (F' : Hp) (m' : List Addr) (H' : Hp) (cs' : CsL), Mem B.X.K B.T F' m' H' cs' → Grow F1 m1 H1 F' m' H' → cs'[n]? = some (.lst ds) → ∃ vs, SqL B.X.K H' a vs ∧ RepL B.X.K F' m' ds vs := fun F' m' H' cs' M' g' hc' => by
            obtain ⟨_, vs, h1, h2⟩ := M'.cell n a _ (g'.pre n a q) hc'
            exact ⟨vs, .of h1, h2⟩
          obtain ⟨vs, h1, _⟩ := cell F1 m1 H1 cs1 M .refl hc
          exact .inl ⟨a, e, ⟨vs, h1⟩, k F1 m1 H1 cs1 ds _ _ p M g (itS_list rfl cell)⟩
        | _ => exact p.elim
    | _ => exact p.elim⟩
/-- range(n), range(a, b) -/
theorem itS_range {F : Hp} {m : List Addr} {H : Hp} {lo : Int} {n : Nat} : ItS B (Itr lo n) F m H (wRange lo n) (fun _ => True) := fun i F' m' H' cs' M g _ => by
  refine ⟨fun hl => ?_, fun d e => ?_⟩
  · have hl' : n ≤ i := by simpa [wRange] using hl
    exact hl'
  unfold wRange at e
  rw [List.getElem?_map] at e
  cases q : (List.range n)[i]? with
  | none => rw [q] at e; cases e
  | some j =>
    rw [q] at e
    cases e
    obtain ⟨h1, h2⟩ := List.getElem?_eq_some_iff.mp q
    rw [List.getElem_range] at h2
    subst h2
    rw [List.length_range] at h1
    refine ⟨h1, fun x H'' y => ?_⟩
    obtain ⟨e1, e2⟩ := y
    exact ⟨e1, by simp only [Rep]; exact e2⟩
def wRng1 (ta : TAD) : TWD := fun Ex sl cs Q => ta Ex sl cs fun ds cs1 => match ds with | [.int j] => (-(2 ^ 62) ≤ j ∧ j < 2 ^ 62) ∧ Q (wRange 0 j.toNat) (fun _ => True) cs1 | _ => False
def wRng2 (ta : TAD) : TWD := fun Ex sl cs Q => ta Ex sl cs fun ds cs2 => match ds with | [.int i, .int j] => (-(2 ^ 62) ≤ i ∧ i < 2 ^ 62 ∧ -(2 ^ 62) ≤ j ∧ j < 2 ^ 62) ∧ Q (wRange i (j - i).toNat) (fun _ => True) cs2 | _ => False
theorem simI_rng1 {tg : Expr} {p : Pos} (hm : B.X.mg "range" = none) (ha : SimA B [a] tr) (hg : Gl B.X "range" := by rfl) (hs : starEach [a] B.X.env = [(false, eval a B.X.env)] := by rfl) : SimI B tg (.Call (.Name "range" p) [a] [] pos) (wRng1 tr) :=
  PI.to (pi_range1 hg hm ha hs) fun σ H R ⟨F, m, cs, sl, Ex, P, A, X, h, k⟩ => ⟨F, m, cs, sl, Ex, _, A, X, h, fun F1 m1 H1 cs1 ds vs p M g r => by
    match ds, p with
    | [.int j], p =>
      obtain ⟨⟨p1, p2⟩, p⟩ := p
      exact ⟨j, RepL.vints (ns := [j]) r, p1, p2, k F1 m1 H1 cs1 _ _ _ p M g itS_range⟩⟩
theorem simI_rng2 {tg : Expr} {p : Pos} (hm : B.X.mg "range" = none) (ha : SimA B [a, b] tr) (hg : Gl B.X "range" := by rfl) (hs : starEach [a, b] B.X.env = [(false, eval a B.X.env), (false, eval b B.X.env)] := by rfl) (hs2 : starEach [b] B.X.env = [(false, eval b B.X.env)] := by rfl) :
    SimI B tg (.Call (.Name "range" p) [a, b] [] pos) (wRng2 tr) :=
  PI.to (pi_range2 hg hm ha hs hs2) fun σ H R ⟨F, m, cs, sl, Ex, P, A, X, h, k⟩ => ⟨F, m, cs, sl, Ex, _, A, X, h, fun F1 m1 H1 cs1 ds vs p M g r => by
    match ds, p with
    | [.int i, .int j], p =>
      obtain ⟨⟨p1, p2, p3, p4⟩, p⟩ := p
      exact ⟨i, j, RepL.vints (ns := [i, j]) r, ⟨p1, p2, p3, p4⟩, k F1 m1 H1 cs1 _ _ _ p M g itS_range⟩⟩

/-! ### defs and their calls -/
/-- a promise over trees: arguments, cells, what follows, what is wanted of an error -/
abbrev PD := List D → CsL → DK → ExW → Prop
def spD (K : PySem.W.Frag) (T : Tabl) (p : PD) : Sp := fun vs H Q E => ∃ (F : Hp) (m : List Addr) (cs : CsL) (ds : List D) (P : DK) (Ex : ExW), Mem K T F m H cs ∧ RepL K F m ds vs ∧ p ds cs P Ex ∧
  (∀ (F' : Hp) (m' : List Addr) (H' : Hp) (cs' : CsL) (d : D) (v : V), P d cs' → Mem K T F' m' H' cs' → Grow F m H F' m' H' → Rep K F' m' d v → Q v H') ∧ ExOk K T ⟨F, m, H⟩ E Ex
theorem ExOk.step {K : PySem.W.Frag} {T : Tabl} {w : W0} {E : XK} {Ex : ExW} {F : Hp} {m : List Addr} {H : Hp} (x : ExOk K T w E Ex) (g : Grow w.F w.m w.H F m H) : ExOk K T ⟨F, m, H⟩ E Ex :=
  fun C d cs F' m' H' v dx e M g' r hd => x C d cs F' m' H' v dx e M (g.trans g') r hd
/-- the program, as it stands -/
structure Gx where
  P : Program
  w : World
  K : PySem.W.Frag
  mg : Str → Option Value
  base : Heap
  T : Tabl
structure Bx.In (G : Gx) (B : Bx) : Prop where
  P : B.X.prog = G.P
  w : B.X.w = G.w
  K : B.X.K = G.K
  mg : B.X.mg = G.mg
  base : B.X.base = G.base
  T : B.T = G.T
/-- the def x (qual its qualified name, st its text, ps its parameters) keeps p, k levels deep -/
def DefOk (G : Gx) (k : Nat) (x qual : Str) (st : Stmt) (ps : List Str) (p : PD) : Prop :=
  ∃ (f : Addr) (fd : FuncData), G.mg x = some (.ref f) ∧ Fun G.K x qual st f fd ∧ FnOk G.P G.w G.K G.mg G.base (L2.CX G.P G.w) k f fd ps (spD G.K G.T p) ∧ Binds G.K fd ps []
theorem DefOk.imp {G : Gx} {k : Nat} {x qual : Str} {st : Stmt} {ps : List Str} {p p' : PD} (h : DefOk G k x qual st ps p) (hp : ∀ ds cs P Ex, p' ds cs P Ex → p ds cs P Ex) : DefOk G k x qual st ps p' := by
  obtain ⟨f, fd, h1, h2, h3, h4⟩ := h
  exact ⟨f, fd, h1, h2, h3.imp fun vs H Q E ⟨F, m, cs, ds, P, Ex, a, b, c, d⟩ => ⟨F, m, cs, ds, P, Ex, a, b, hp _ _ _ _ c, d⟩, h4⟩
structure Good (G : Gx) (k : Nat) (B : Bx) : Prop where
  ing : B.In G
  calm : B.X.calm = true
  nd : B.X.N.Nodup
  room : Room k B.X.A
  pass : Passes (L2.CX B.X.prog B.X.w) B.X B.E
def dCall (p : PD) (ta : TAD) : TED := fun Ex sl cs Q => ta Ex sl cs fun ds cs1 => p ds cs1 Q Ex
theorem Good.fn {G : Gx} {k j : Nat} {f : Addr} {fd : FuncData} {ps : List Str} {p : PD} (good : Good G j B) (h3 : FnOk G.P G.w G.K G.mg G.base (L2.CX G.P G.w) k f fd ps (spD G.K G.T p)) :
    FnOk B.X.prog B.X.w B.X.K B.X.mg B.X.base (L2.CX B.X.prog B.X.w) k f fd ps (spD B.X.K B.T p) := by
  rw [good.ing.P, good.ing.w, good.ing.K, good.ing.mg, good.ing.base, good.ing.T]
  exact h3
theorem spD_of {F : Hp} {m : List Addr} {H : Hp} {cs : CsL} {σ : St} {sl : Sl} {Ex : ExW} {P : DK} {Q : VK} {p : PD} {F' : Hp} {m' : List Addr} {H' : Hp} {cs' : CsL} {ds : List D} {vs : List V} (A : At B.X.K B.T B.w σ sl H cs F m) (X : ExOk B.X.K B.T B.w B.E Ex)
    (k : ∀ (F' : Hp) (m' : List Addr) (H' : Hp) (cs' : CsL) (d : D) (v : V), P d cs' → Mem B.X.K B.T F' m' H' cs' → Grow F m H F' m' H' → Rep B.X.K F' m' d v → Q v H')
    (M : Mem B.X.K B.T F' m' H' cs') (g : Grow F m H F' m' H') (r : RepL B.X.K F' m' ds vs) (q : p ds cs' P Ex) : spD B.X.K B.T p vs H' Q B.E :=
  ⟨F', m', cs', ds, P, Ex, M, r, q, fun F2 m2 H2 cs2 d v p2 M2 g2 r2 => k F2 m2 H2 cs2 d v p2 M2 (g.trans g2) r2, X.step (A.gr.trans g)⟩
theorem simE_call {G : Gx} {k j : Nat} {x qual : Str} {dst : Stmt} {ps : List Str} {p : PD} {pn : Pos} (good : Good G j B) (h : DefOk G k x qual dst ps p) (ha : SimA B (e :: es) tr) (hk : k ≤ j := by decide) (hg : Gl B.X x := by rfl)
    (hdb : (x == ("__debug__" : Str)) = false := by decide) (he : starEach (e :: es) B.X.env = (false, eval e B.X.env) :: starEach es B.X.env := by rfl) (hpl : (backTo pos (starEach es B.X.env)).any (·.1) = false := by rfl) :
    SimE B (.Call (.Name x pn) (e :: es) [] pos) (dCall p tr) := by
  obtain ⟨f, fd, h1, h2, h3, h4⟩ := h
  exact PE.to (pe_call (E := B.E) (good.fn h3) (good.room.mono hk) hg (by rw [good.ing.mg]; exact h1) (by rw [good.ing.K]; exact h2.kp) (by rw [good.ing.K]; exact h4) .nil good.pass ha hdb he hpl) fun σ H Q ⟨F, m, cs, sl, Ex, P, A, X, h, k⟩ =>
    ⟨F, m, cs, sl, Ex, _, A, X, h, fun F' m' H' cs' ds vs q M g r => by
      show spD B.X.K B.T p (vs ++ []) H' Q B.E
      rw [List.append_nil]
      exact spD_of A X k M g r q⟩
theorem simE_call0 {G : Gx} {k j : Nat} {x qual : Str} {dst : Stmt} {ps : List Str} {p : PD} {pn : Pos} (good : Good G j B) (h : DefOk G k x qual dst ps p) (hk : k ≤ j := by decide) (hg : Gl B.X x := by rfl)
    (hdb : (x == ("__debug__" : Str)) = false := by decide) : SimE B (.Call (.Name x pn) [] [] pos) (dCall p aNil) := by
  obtain ⟨f, fd, h1, h2, h3, h4⟩ := h
  exact PE.to (pe_call0 (E := B.E) (good.fn h3) (good.room.mono hk) hg (by rw [good.ing.mg]; exact h1) (by rw [good.ing.K]; exact h2.kp) (by rw [good.ing.K]; exact h4) .nil good.pass hdb) fun σ H Q ⟨F, m, cs, sl, Ex, P, A, X, h, k⟩ =>
    spD_of A X k A.mem .refl .nil h

/-! keywords -/
def pick {α : Type} (idx : List Nat) (xs : List α) : List α := idx.filterMap fun i => xs[i]?
theorem pick_vals {vs : List V} {us : List Value} (r : Vals vs us) : ∀ idx : List Nat, Vals (pick idx vs) (pick idx us)
  | [] => .nil
  | i :: idx => by
    have ih := pick_vals r idx
    unfold pick at ih ⊢
    simp only [List.filterMap_cons]
    cases q : vs[i]? with
    | none => rw [r.none_of q]; exact ih
    | some v =>
      obtain ⟨u, e, ru⟩ := r.get q
      rw [e]
      exact .cons ru ih
theorem pick_rep {K : PySem.W.Frag} {F : Hp} {m : List Addr} {ds : List D} {vs : List V} (r : RepL K F m ds vs) : ∀ idx : List Nat, RepL K F m (pick idx ds) (pick idx vs)
  | [] => .nil
  | i :: idx => by
    have ih := pick_rep r idx
    unfold pick at ih ⊢
    simp only [List.filterMap_cons]
    cases q : ds[i]? with
    | none =>
      have : vs[i]? = none := by
        rw [List.getElem?_eq_none_iff] at q ⊢
        rw [← r.length]; exact q
      rw [this]; exact ih
    | some v =>
      obtain ⟨u, e, ru⟩ := r.get q
      rw [e]
      exact .cons ru ih
theorem kbn_mk {K : PySem.W.Frag} {x qual : Str} {st : Stmt} {f : Addr} {fd : FuncData} {ps ks : List Str} {n : Nat} {idx : List Nat} (F : Fun K x qual st f fd)
    (h : ∀ (kV doc pm : Value) (an : Option Addr) (cdv ct : Value) (us ws : List Value), us.length = n → ws.length = ks.length → bindArgs (PySem.W.fnOf x qual (defArgs st) (defBody st) (defScope st) .none kV doc pm an cdv ct) ⟨us, ks.zip ws⟩ = pure (ps.zip (pick idx (us ++ ws)))) :
    KBn K fd ps n ks (fun us ws => pick idx (us ++ ws)) (fun vs zs => pick idx (vs ++ zs)) := by
  obtain ⟨oc, od, kV, doc, pm, an, cdv, ct, osl, rfl, lk, hcd⟩ := F.ex
  exact ⟨fun s us ws _ l1 l2 => .of_eq (h kV doc pm an cdv ct us ws l1 l2), fun r1 r2 => pick_vals (r1.append r2) idx⟩
def SimK (B : Bx) (kws : List Keyword) (t : TAD) : Prop := PK B.X kws (liftA B t)
theorem PK.to {X : Cx} {kws : List Keyword} {t u : TA} (h : PK X kws t) (hu : ∀ σ H Q, u σ H Q → t σ H Q) : PK X kws u := ⟨fun pos pins s σ H Q I q => h.run pos pins s σ H Q I (hu _ _ _ q)⟩
theorem simK_nil : SimK B [] aNil := PK.to pk_nil fun σ H Q ⟨F, m, cs, sl, Ex, P, A, X, h, k⟩ => k F m H cs [] [] h A.mem .refl .nil
theorem simK_cons {nm : Option Str} {kpos : Pos} {kws : List Keyword} (ha : SimE B e te) (hr : SimK B kws tr) : SimK B (⟨nm, e, kpos⟩ :: kws) (aCons te tr) :=
  PK.to (pk_cons ha hr) fun σ H Q ⟨F, m, cs, sl, Ex, P, A, X, h, k⟩ => ⟨F, m, cs, sl, Ex, _, A, X, h, fun F1 m1 H1 cs1 d v p1 M1 g1 r1 =>
    ⟨F1, m1, cs1, sl, Ex, _, A.step M1 g1, X, p1, fun F2 m2 H2 cs2 ds vs p2 M2 g2 r2 => k F2 m2 H2 cs2 (d :: ds) (v :: vs) p2 M2 (g1.trans g2) (.cons (g2.rep r1) r2)⟩⟩
def dCallK (n m : Nat) (idx : List Nat) (p : PD) (ta tk : TAD) : TED := fun Ex sl cs Q => ta Ex sl cs fun ds cs1 => tk Ex sl cs1 fun es cs2 => ds.length = n ∧ es.length = m ∧ p (pick idx (ds ++ es)) cs2 Q Ex
/-- f(k = v, ..): keywords alone -/
theorem pe_callN0 {X : Cx} {CX : CXT} {k : Nat} {f : Addr} {fd : FuncData} {ps ks : List Str} {sp : Sp} {E : XK} {x : Str} {p pos : Pos} {kws : List Keyword} {tk : TA} {g : List Value → List Value → List Value} {gV : List V → List V → List V}
    (F : FnOk X.prog X.w X.K X.mg X.base CX k f fd ps sp) (hr : Room k X.A) (hg : Gl X x) (hm : X.mg x = some (.ref f)) (hk : PySem.W.keepIn X.K (.ref f) = true) (hb : KBn X.K fd ps 0 ks g gV) (hx : Passes CX X E)
    (hkw : PK X kws tk) (hall : (backToKw pos (keywordEach kws X.env)).all (·.1.isSome) = true := by rfl) (hks : (backToKw pos (keywordEach kws X.env)).filterMap (·.1) = ks := by rfl)
    (hdb : (x == ("__debug__" : Str)) = false := by decide)
    (hpl : ((backToKw pos (keywordEach kws X.env)).any (·.1.isNone)) = false := by rfl) :
    PE X (.Call (.Name x p) [] kws pos) (tCallN 0 ks.length sp gV E tNil tk) := by
  refine ⟨fun pins s σ H Q I h => ?_⟩
  refine wpAny_Call_Name_kw (ld_glob I hg hm ?_ hdb)
  refine PySem.W.callWith_KW0 (h₀ := X.base) I.ok.mod.kin hk hall ?_ (by show (false || _) = false; rw [hpl]; rfl)
  refine thn (hkw.run pos pins s σ H _ I h) fun ws s2 ⟨zs, H2, I2, rz, l1, l2, q2⟩ => ⟨I2.kIn, ?_⟩
  rw [hks]
  exact run_fnN F hr hb hx I2 .nil rz l1 l2 q2
theorem simE_callK0 {G : Gx} {k j : Nat} {x qual : Str} {dst : Stmt} {ps ks : List Str} {p : PD} {pn : Pos} {kws : List Keyword} {tk : TAD} {idx : List Nat} (good : Good G j B) (h : DefOk G k x qual dst ps p)
    (hb : ∀ (f : Addr) (fd : FuncData), Fun G.K x qual dst f fd → KBn G.K fd ps 0 ks (fun us ws => pick idx (us ++ ws)) (fun vs zs => pick idx (vs ++ zs))) (hkw : SimK B kws tk) (hk : k ≤ j := by decide) (hg : Gl B.X x := by rfl)
    (hall : (backToKw pos (keywordEach kws B.X.env)).all (·.1.isSome) = true := by rfl) (hks : (backToKw pos (keywordEach kws B.X.env)).filterMap (·.1) = ks := by rfl)
    (hdb : (x == ("__debug__" : Str)) = false := by decide) (hpl : ((backToKw pos (keywordEach kws B.X.env)).any (·.1.isNone)) = false := by rfl) :
    SimE B (.Call (.Name x pn) [] kws pos) (dCallK 0 ks.length idx p aNil tk) := by
  obtain ⟨f, fd, h1, h2, h3, h4⟩ := h
  exact PE.to (pe_callN0 (E := B.E) (good.fn h3) (good.room.mono hk) hg (by rw [good.ing.mg]; exact h1) (by rw [good.ing.K]; exact h2.kp) (by rw [good.ing.K]; exact hb f fd h2) good.pass hkw hall hks hdb hpl) fun σ H Q ⟨F, m, cs, sl, Ex, P, A, X, h, k⟩ =>
    ⟨F, m, cs, sl, Ex, _, A, X, h, fun F' m' H' cs' ds vs q M g r => by
      obtain ⟨_, l2, q⟩ := q
      exact ⟨rfl, by rw [← r.length]; exact l2, spD_of A X k M g (pick_rep r idx) q⟩⟩
theorem simE_callK {G : Gx} {k j n : Nat} {x qual : Str} {dst : Stmt} {ps ks : List Str} {p : PD} {pn : Pos} {kws : List Keyword} {tk : TAD} {idx : List Nat} (good : Good G j B) (h : DefOk G k x qual dst ps p)
    (hb : ∀ (f : Addr) (fd : FuncData), Fun G.K x qual dst f fd → KBn G.K fd ps n ks (fun us ws => pick idx (us ++ ws)) (fun vs zs => pick idx (vs ++ zs))) (ha : SimA B (e :: es) tr) (hkw : SimK B kws tk) (hk : k ≤ j := by decide) (hg : Gl B.X x := by rfl)
    (hall : (backToKw pos (keywordEach kws B.X.env)).all (·.1.isSome) = true := by rfl) (hks : (backToKw pos (keywordEach kws B.X.env)).filterMap (·.1) = ks := by rfl)
    (hdb : (x == ("__debug__" : Str)) = false := by decide) (he : starEach (e :: es) B.X.env = (false, eval e B.X.env) :: starEach es B.X.env := by rfl)
    (hpl : ((backTo pos (starEach (e :: es) B.X.env)).any (·.1) || (backToKw pos (keywordEach kws B.X.env)).any (·.1.isNone)) = false := by rfl) :
    SimE B (.Call (.Name x pn) (e :: es) kws pos) (dCallK n ks.length idx p tr tk) := by
  obtain ⟨f, fd, h1, h2, h3, h4⟩ := h
  exact PE.to (pe_callN (E := B.E) (good.fn h3) (good.room.mono hk) hg (by rw [good.ing.mg]; exact h1) (by rw [good.ing.K]; exact h2.kp) (by rw [good.ing.K]; exact hb f fd h2) good.pass ha hkw hall hks hdb he hpl) fun σ H Q ⟨F, m, cs, sl, Ex, P, A, X, h, k⟩ =>
    ⟨F, m, cs, sl, Ex, _, A, X, h, fun F' m' H' cs' ds vs q M g r => ⟨F', m', cs', sl, Ex, _, A.step M g, X, q, fun F2 m2 H2 cs2 es us q M2 g2 r2 => by
      obtain ⟨l1, l2, q⟩ := q
      have r3 := g2.repL r
      exact ⟨by rw [← r3.length]; exact l1, by rw [← r2.length]; exact l2, spD_of A X k M2 (g.trans g2) (pick_rep (r3.app r2) idx) q⟩⟩⟩

/-! ### a def's body -/
/-- the end of a def: what its caller is told -/
def RetD (K : PySem.W.Frag) (T : Tabl) (n : Nat) (P : DK) : DK := fun d cs => ∃ d' cs', Lands K T n d cs d' cs' ∧ P d' cs'
def ExD (K : PySem.W.Frag) (T : Tabl) (n : Nat) (Ex : ExW) : ExW := fun C d cs => ∃ d' cs', Lands K T n d cs d' cs' ∧ Ex C d' cs'
def startD (N : List Str) (ds : List D) : Sl := ds.map some ++ List.replicate (N.length - ds.length) none
abbrev bxOf (G : Gx) (N : List Str) (qual : Str) (sc : Scope) (f : Addr) (cd : Value) (A : Around) (outer : List Env) (s : Shared) (H : Hp) (E : XK) (F : Hp) (m : List Addr) : Bx :=
  ⟨cxOf (L2.CX G.P G.w) G.P G.w G.K G.mg G.base N qual sc f cd A outer s H E, G.T, ⟨F, m, H⟩, E⟩
theorem startD_rel {K : PySem.W.Frag} {F : Hp} {m : List Addr} {ds : List D} {vs : List V} (N : List Str) (r : RepL K F m ds vs) : SlR K F m (startD N ds) (L2.start N vs) where
  len := by
    unfold startD L2.start
    rw [List.length_append, List.length_append, List.length_map, List.length_map, List.length_replicate, List.length_replicate, r.length]
  get := fun i d e => by
    unfold startD at e
    unfold L2.start
    by_cases hi : i < ds.length
    · rw [List.getElem?_append_left (by rw [List.length_map]; exact hi), List.getElem?_map] at e
      rw [List.getElem?_append_left (by rw [List.length_map, ← r.length]; exact hi), List.getElem?_map]
      cases q : ds[i]? with
      | none => rw [q] at e; cases e
      | some d' =>
        rw [q] at e
        cases e
        obtain ⟨v, e', rv⟩ := r.get q
        exact ⟨v, by rw [e']; rfl, rv⟩
    · rw [List.getElem?_append_right (by rw [List.length_map]; omega)] at e
      obtain ⟨h1, h2⟩ := List.getElem?_eq_some_iff.mp e
      rw [List.getElem_replicate] at h2
      cases h2
theorem takes_cx {G : Gx} {N : List Str} {qual : Str} {sc : Scope} {f : Addr} {cd : Value} {A : Around} {outer : List Env} {s : Shared} {H : Hp} {E : XK} {F : Hp} {m : List Addr} : Takes (bxOf G N qual sc f cd A outer s H E F m).X (fun c d _ H => E c d H) := takes_of rfl rfl rfl rfl
theorem own_cx {G : Gx} {N : List Str} {qual : Str} {sc : Scope} {f : Addr} {cd : Value} {A : Around} {outer : List Env} {s : Shared} {H : Hp} {E : XK} {F : Hp} {m : List Addr} :
    PassesOwn (model G.P G.w) (bxOf G N qual sc f cd A outer s H E F m).X.A (bxOf G N qual sc f cd A outer s H E F m).X.env (bxOf G N qual sc f cd A outer s H E F m).X.xe := passes_of rfl
/-- THE RULE of a def -/
theorem def_ok {G : Gx} {k : Nat} {x qual : Str} {st : Stmt} {N ps : List Str} {p : PD} (hF : ∃ (f : Addr) (fd : FuncData), G.mg x = some (.ref f) ∧ Fun G.K x qual st f fd) (S : FnScope N ps (defScope st)) (hlen : ∀ ds cs P Ex, p ds cs P Ex → ds.length = ps.length)
    (hbind : ∀ (kV doc pm : Value) (an : Option Addr) (cdv ct : Value) (us : List Value), us.length = ps.length → bindArgs (PySem.W.fnOf x qual (defArgs st) (defBody st) (defScope st) .none kV doc pm an cdv ct) ⟨us, []⟩ = pure (ps.zip us))
    (hb : ∀ (f : Addr) (cd : Value) (A : Around) (outer : List Env) (s : Shared) (H : Hp) (E : XK) (F : Hp) (m : List Addr), Good G k (bxOf G N qual (defScope st) f cd A outer s H E F m) →
      ∃ t, SimSs (bxOf G N qual (defScope st) f cd A outer s H E F m) (defBody st) t ∧ ∀ ds cs P Ex, BelL cs.length ds → (∀ c ∈ cs, BelC cs.length c) → p ds cs P Ex →
        t (ExD G.K G.T cs.length Ex) (startD N ds) cs { nx := fun _ cs' => RetD G.K G.T cs.length P .non cs', rt := RetD G.K G.T cs.length P }) :
    DefOk G (k + 1) x qual st ps p := by
  obtain ⟨f, fd, h1, h2⟩ := hF
  refine ⟨f, fd, h1, h2, ?_, h2.binds hbind⟩
  refine h2.okX (N := N) S (fun vs H Q E ⟨F, m, cs, ds, P, Ex, M, r, q, k, X⟩ => by rw [← r.length]; exact hlen ds cs P Ex q) fun cdv A outer s H vs Q E hr ⟨F, m, cs, ds, P, Ex, M, r, q, k, X⟩ => ?_
  have good : Good G _ (bxOf G N qual (defScope st) f cdv A outer s H E F m) := ⟨⟨rfl, rfl, rfl, rfl, rfl, rfl⟩, rfl, S.nd, hr, passes_call takes_cx fun _ _ _ _ h => h⟩
  obtain ⟨t, ht, hq⟩ := hb f cdv A outer s H E F m good
  have bel := RepL.bel ds vs r
  rw [M.len] at bel
  have h := hq ds cs P Ex bel (fun c hc => by
    obtain ⟨i, hi, e⟩ := List.mem_iff_getElem.mp hc
    have := M.bel (k := i) (c := c) (by rw [List.getElem?_eq_getElem hi, e])
    rwa [M.len] at this) q
  refine ⟨_, ht, F, m, cs, startD N ds, _, _, ⟨M, .refl, startD_rel N r⟩, ?_, h, ?_, ?_, ?_, ?_⟩
  · intro C d cs' F' m' H' v dx ⟨d', cs2, L, e⟩ M' g r' hd
    obtain ⟨F2, m2, M2, g2, r2⟩ := L F m H F' m' H' v cs M.len M M' g r'
    exact X C d' cs2 F2 m2 H' v dx e M2 g2 r2 hd
  · intro F' m' H' cs' sl' σ' ⟨d', cs2, L, e⟩ A' g
    obtain ⟨F2, m2, M2, g2, r2⟩ := L F m H F' m' H' .non cs M.len M A'.mem g (by simp only [Rep])
    exact k F2 m2 H' cs2 d' .non e M2 g2 r2
  · intro F' m' H' cs' d v ⟨d', cs2, L, e⟩ M' g r'
    obtain ⟨F2, m2, M2, g2, r2⟩ := L F m H F' m' H' v cs M.len M M' g r'
    exact k F2 m2 H' cs2 d' v e M2 g2 r2
  · intro F' m' H' cs' sl' σ' p A' g
    exact p.elim
  · intro F' m' H' cs' sl' σ' p A' g
    exact p.elim
end
end Sim


/-! Sim, part E: operators, built-ins, displays, subscripts over trees. -/
namespace Sim
open PySem PySem.Spec PyProof.Rows L2

/-- a list's items -/
def lstOf (d : D) (cs : CsL) : Option (List D) := match d with
  | .lst ds => some ds
  | .loc n => match cs[n]? with
    | some (.lst ds) => some ds
    | _ => none
  | _ => none
/-- a list's or a tuple's items -/
def seqOf (d : D) (cs : CsL) : Option (List D) := match d with
  | .tup ds => some ds
  | d => lstOf d cs
section
variable {K : PySem.W.Frag} {T : Tabl} {F H : Hp} {m : List Addr} {cs : CsL} {d e : D} {v u : V} {ds es : List D} {P : DK} {Q : VK}
theorem lstOf_ok (M : Mem K T F m H cs) (r : Rep K F m d v) (h : lstOf d cs = some ds) : ∃ a vs, v = .ref a ∧ SqL K H a vs ∧ RepL K F m ds vs := by
  cases d with
  | lst xs =>
    simp only [lstOf] at h
    cases h
    simp only [Rep] at r
    obtain ⟨a, vs, e, s, rl⟩ := r
    exact ⟨a, vs, e, M.sub.sql s, rl⟩
  | loc n =>
    simp only [lstOf] at h
    cases hc : cs[n]? with
    | none => rw [hc] at h; cases h
    | some c =>
      rw [hc] at h
      cases c with
      | lst xs =>
        cases h
        simp only [Rep] at r
        obtain ⟨a, e, q⟩ := r
        obtain ⟨_, vs, h1, h2⟩ := M.cell n a _ q hc
        exact ⟨a, vs, e, .of h1, h2⟩
      | _ => cases h
  | _ => cases h
theorem seqOf_ok (M : Mem K T F m H cs) (r : Rep K F m d v) (h : seqOf d cs = some ds) : ∃ a vs, v = .ref a ∧ (SqL K H a vs ∨ SqT K H a vs) ∧ RepL K F m ds vs := by
  have key : ∀ {d : D}, Rep K F m d v → lstOf d cs = some ds → ∃ a vs, v = .ref a ∧ (SqL K H a vs ∨ SqT K H a vs) ∧ RepL K F m ds vs := fun r h =>
    let ⟨a, vs, e, s, rl⟩ := lstOf_ok M r h; ⟨a, vs, e, .inl s, rl⟩
  cases d with
  | tup xs =>
    simp only [seqOf] at h
    cases h
    simp only [Rep] at r
    obtain ⟨a, vs, e, s, rl⟩ := r
    exact ⟨a, vs, e, .inr (M.sub.sqt s), rl⟩
  | _ => exact key r h
/-- what follows a step by values -/
def Cont (K : PySem.W.Frag) (T : Tabl) (F : Hp) (m : List Addr) (H : Hp) (P : DK) (Q : VK) : Prop :=
  ∀ (F' : Hp) (m' : List Addr) (H' : Hp) (cs' : CsL) (d' : D) (v' : V), P d' cs' → Mem K T F' m' H' cs' → Grow F m H F' m' H' → Rep K F' m' d' v' → Q v' H'
theorem Cont.val (k : Cont K T F m H P Q) (M : Mem K T F m H cs) (p : P d cs) (r : Rep K F m d v) : Q v H := k F m H cs d v p M .refl r
/-- a new list is handed on -/
theorem Cont.list {vs : List V} (k : Cont K T F m H P Q) (M : Mem K T F m H cs) (r : RepL K F m ds vs) (p : P (.loc cs.length) (cs ++ [.lst ds])) : ∀ q, H q = none → Q (.ref q) (upd H q (.lst vs)) := fun q hq =>
  k F (m ++ [q]) (upd H q (.lst vs)) (cs ++ [.lst ds]) (.loc cs.length) (.ref q) p
    (M.alloc (o := .lst vs) (c := .lst ds) hq True.intro ⟨M.noF hq, vs, upd_same, RepL.mono (.refl F) (.app m [q]) ds vs r⟩) (.alloc hq) (by
      simp only [Rep]
      exact ⟨q, rfl, by rw [← M.len, List.getElem?_append_right (Nat.le_refl _)]; simp⟩)
theorem Cont.tup {vs : List V} (k : Cont K T F m H P Q) (M : Mem K T F m H cs) (r : RepL K F m ds vs) (p : P (.tup ds) cs) : ∀ q, H q = none → Q (.ref q) (upd H q (.tup vs)) := fun q hq =>
  k (upd F q (.tup vs)) m (upd H q (.tup vs)) cs (.tup ds) (.ref q) p (M.put hq fun ps z => by cases z) (.put hq (M.noF hq)) (by
    simp only [Rep]
    exact ⟨q, vs, rfl, .of upd_same, RepL.mono (.new (M.noF hq)) (.refl _) ds vs r⟩)
theorem Cont.dict {ks : List Key} {vs : List V} (k : Cont K T F m H P Q) (M : Mem K T F m H cs) (hl : ks.length = vs.length) (r : RepL K F m ds vs) (p : P (.loc cs.length) (cs ++ [.dic ks ds])) : ∀ q, H q = none → Q (.ref q) (upd H q (.dK (ks.zip vs))) := fun q hq =>
  k F (m ++ [q]) (upd H q (.dK (ks.zip vs))) (cs ++ [.dic ks ds]) (.loc cs.length) (.ref q) p
    (M.alloc (o := .dK (ks.zip vs)) (c := .dic ks ds) hq True.intro ⟨M.noF hq, vs, upd_same, hl, RepL.mono (.refl F) (.app m [q]) ds vs r⟩) (.alloc hq) (by
      simp only [Rep]
      exact ⟨q, rfl, by rw [← M.len, List.getElem?_append_right (Nat.le_refl _)]; simp⟩)
/-- the list in cell n is written -/
theorem Cont.write {n : Nat} {a : Addr} {vs : List V} (k : Cont K T F m H P Q) (M : Mem K T F m H cs) (h : m[n]? = some a) (hF : F a = none) (r : RepL K F m ds vs) (re : Rep K F m e u) (p : P e (cs.set n (.lst ds))) : Q u (upd H a (.lst vs)) :=
  k F m _ _ e u p (M.write (o := .lst vs) (c := .lst ds) h True.intro hF ⟨hF, vs, upd_same, r⟩) (.write M h) re
end

/-! ### operators -/
section
variable {K : PySem.W.Frag} {T : Tabl}
theorem opS_rI {C : Int → Int → Prop} {g : Int → Int → V} {gD : Int → Int → D} (hg : ∀ F m i j, Rep K F m (gD i j) (g i j)) : OpS K T (rI C g) (fun d e cs Q => match d, e with | .int i, .int j => C i j ∧ Q (gD i j) cs | _, _ => False) := by
  intro F m H cs d e v u P Q M r1 r2 h k
  split at h
  · rename_i i j
    simp only [Rep] at r1 r2
    exact ⟨i, j, r1, r2, h.1, k F m H cs _ _ h.2 M .refl (hg F m i j)⟩
  · exact h.elim
theorem opS_rI0 {g : Int → Int → V} {gD : Int → Int → D} (hg : ∀ F m i j, Rep K F m (gD i j) (g i j)) : OpS K T (rI0 g) (fun d e cs Q => match d, e with | .int i, .int j => Q (gD i j) cs | _, _ => False) := by
  intro F m H cs d e v u P Q M r1 r2 h k
  split at h
  · rename_i i j
    simp only [Rep] at r1 r2
    exact ⟨i, j, r1, r2, k F m H cs _ _ h M .refl (hg F m i j)⟩
  · exact h.elim
def rSub : R2D := fun d e cs Q => match d, e with | .int i, .int j => Q (.int (i - j)) cs | _, _ => False
theorem opS_sub : OpS K T (rI0 fun i j => .int (i - j)) rSub := opS_rI0 fun _ _ _ _ => by simp only [Rep]
def rLt : R2D := fun d e cs Q => match d, e with | .int i, .int j => Q (.bl (decide (i < j))) cs | _, _ => False
theorem opS_lt : OpS K T (rI0 fun i j => .bl (decide (i < j))) rLt := opS_rI0 fun _ _ _ _ => by simp only [Rep]
def rLe : R2D := fun d e cs Q => match d, e with | .int i, .int j => Q (.bl (decide (i ≤ j))) cs | _, _ => False
theorem opS_le : OpS K T (rI0 fun i j => .bl (decide (i ≤ j))) rLe := opS_rI0 fun _ _ _ _ => by simp only [Rep]
def rGt : R2D := fun d e cs Q => match d, e with | .int i, .int j => Q (.bl (decide (j < i))) cs | _, _ => False
theorem opS_gt : OpS K T (rI0 fun i j => .bl (decide (j < i))) rGt := opS_rI0 fun _ _ _ _ => by simp only [Rep]
def rGe : R2D := fun d e cs Q => match d, e with | .int i, .int j => Q (.bl (decide (j ≤ i))) cs | _, _ => False
theorem opS_ge : OpS K T (rI0 fun i j => .bl (decide (j ≤ i))) rGe := opS_rI0 fun _ _ _ _ => by simp only [Rep]
/-- // and % -/
def FDivOk (i j : Int) : Prop := 0 < j ∧ j.natAbs.log2 < 9000
def rFdiv : R2D := fun d e cs Q => match d, e with | .int i, .int j => CDivW i j ∧ Q (.int (i / j)) cs | _, _ => False
theorem opS_fdiv : OpS K T (rI CDivW fun i j => .int (i / j)) rFdiv := opS_rI fun _ _ _ _ => by simp only [Rep]
def rMod : R2D := fun d e cs Q => match d, e with | .int i, .int j => 0 < j ∧ Q (.int (i % j)) cs | _, _ => False
theorem opS_mod : OpS K T (rI (fun _ j => 0 < j) fun i j => .int (i % j)) rMod := opS_rI fun _ _ _ _ => by simp only [Rep]
def rPow : R2D := fun d e cs Q => match d, e with | .int i, .int j => CPow i j ∧ Q (.int (i ^ j.toNat)) cs | _, _ => False
theorem opS_pow : OpS K T (rI CPow fun i j => .int (i ^ j.toNat)) rPow := opS_rI fun _ _ _ _ => by simp only [Rep]
end

/-! ### + -/
/-- list + list, whatever its lists are -/
def rCatL (K : PySem.W.Frag) : R2 := fun x y H Q => ∃ l b xs zs, x = .ref l ∧ y = .ref b ∧ SqL K H l xs ∧ SqL K H b zs ∧ xs.length + zs.length ≤ sizeLine ∧ ∀ p, H p = none → Q (.ref p) (upd H p (.lst (xs ++ zs)))
theorem op_catL {X : Cx} : OpR X (binaryOp .Add) (rCatL X.K) := by
  intro pins s σ H x y v u Q I rx ry h
  obtain ⟨l, b, xs, zs, rfl, rfl, hH, hB, hz, q⟩ := h
  cases rx
  cases ry
  obtain ⟨its, r, p1, z⟩ := I.list hH
  obtain ⟨its2, r2, p2, z2⟩ := I.list hB
  have hl := r.length
  have hl2 := r2.length
  obtain ⟨⟨cls, dd, data, sl⟩, ho, hc, n, hd⟩ := p1.isList
  obtain ⟨⟨cls2, dd2, data2, sl2⟩, ho2, hc2, n2, hd2⟩ := p2.isList
  simp only at hc hd hc2 hd2
  subst hc hd hc2 hd2
  have e : its.toArray ++ its2.toArray = (its ++ its2).toArray := by simp
  refine concat_meets ⟨_, ho, rfl⟩ ⟨_, ho2, rfl⟩ noFill_list_add seq_list_add PySem.F.slot_list_add PySem.F.entry_list_add (PySem.F.args_list_add_2 _ _) (list_addW l b its.toArray its2.toArray n n2 dd dd2 sl sl2 (by rw [List.size_toArray, List.size_toArray]; omega)) ⟨ho, ho2, ?_⟩
  rw [e]
  exact ⟨.ref _, _, I.lnew (t' := s.toks) (r.append r2) (by rw [List.length_append]; omega), rfl, q _ I.fresh⟩
def rAdd : R2D := fun d e cs Q => match d, e with
  | .int i, .int j => Q (.int (i + j)) cs
  | .str x, .str y => x.length + y.length ≤ sizeLine ∧ Q (.str (x ++ y)) cs
  | .tup xs, .tup ys => xs.length + ys.length ≤ sizeLine ∧ Q (.tup (xs ++ ys)) cs
  | d, e => match lstOf d cs, lstOf e cs with
    | some xs, some ys => xs.length + ys.length ≤ sizeLine ∧ Q (.loc cs.length) (cs ++ [.lst (xs ++ ys)])
    | _, _ => False
def RAdd (K : PySem.W.Frag) : R2 := fun x y H Q => (∃ i j, x = .int i ∧ y = .int j ∧ Q (.int (i + j)) H) ∨ (∃ i j, x = .str i ∧ y = .str j ∧ i.length + j.length ≤ sizeLine ∧ Q (.str (i ++ j)) H) ∨ rCatA K x y H Q ∨ rCatL K x y H Q
theorem op_addA {X : Cx} : OpR X (binaryOp .Add) (RAdd X.K) := (OpR.or op_add (OpR.or op_add_str (OpR.or op_catA op_catL)))
theorem opS_addA {K : PySem.W.Frag} {T : Tabl} : OpS K T (RAdd K) rAdd := by
  intro F m H cs d e v u P Q M r1 r2 h k
  have key : ∀ {d e : D}, Rep K F m d v → Rep K F m e u → (match lstOf d cs, lstOf e cs with
    | some xs, some ys => xs.length + ys.length ≤ sizeLine ∧ P (.loc cs.length) (cs ++ [.lst (xs ++ ys)])
    | _, _ => False) → RAdd K v u H Q := fun {d e} r1 r2 h => by
    cases q1 : lstOf d cs with
    | none => rw [q1] at h; exact h.elim
    | some xs =>
      cases q2 : lstOf e cs with
      | none => rw [q1, q2] at h; exact h.elim
      | some ys =>
        rw [q1, q2] at h
        obtain ⟨a, vs, e1, s1, l1⟩ := lstOf_ok M r1 q1
        obtain ⟨b, us, e2, s2, l2⟩ := lstOf_ok M r2 q2
        exact .inr (.inr (.inr ⟨a, b, vs, us, e1, e2, s1, s2, by rw [← l1.length, ← l2.length]; exact h.1, Cont.list k M (l1.app l2) h.2⟩))
  unfold rAdd at h
  split at h
  · simp only [Rep] at r1 r2
    exact .inl ⟨_, _, r1, r2, k F m H cs _ _ h M .refl (by simp only [Rep])⟩
  · simp only [Rep] at r1 r2
    exact .inr (.inl ⟨_, _, r1, r2, h.1, k F m H cs _ _ h.2 M .refl (by simp only [Rep])⟩)
  · rename_i xs ys
    simp only [Rep] at r1 r2
    obtain ⟨a, vs, e1, s1, l1⟩ := r1
    obtain ⟨b, us, e2, s2, l2⟩ := r2
    refine .inr (.inr (.inl ⟨a, b, vs, us, e1, e2, M.sub.sqt s1, M.sub.sqt s2, by rw [← l1.length, ← l2.length]; exact h.1, fun z => ?_, fun _ z => ?_, fun _ _ => Cont.tup k M (l1.app l2) h.2⟩))
    · subst z
      cases xs with
      | nil => exact k F m H cs (.tup ys) _ h.2 M .refl (by simp only [Rep]; exact ⟨b, us, rfl, s2, l2⟩)
      | cons x xs => have := l1.length; simp at this
    · subst z
      cases ys with
      | nil => exact k F m H cs (.tup xs) _ (by simpa using h.2) M .refl (by simp only [Rep]; exact ⟨a, vs, rfl, s1, l1⟩)
      | cons x xs => have := l2.length; simp at this
  · exact key r1 r2 h
/-! ### * -/
def MulOk (i j : Int) : Prop := CMul i j ∨ CMulW i j
/-- list * int -/
def rRepL (K : PySem.W.Frag) : R2 := fun x y H Q => ∃ l k xs, x = .ref l ∧ y = .int k ∧ SqL K H l xs ∧ 0 ≤ k ∧ k < 2 ^ 20 ∧ xs.length * k.toNat ≤ sizeLine ∧ H l = some (.lst xs) ∧ ∀ p, H p = none → Q (.ref p) (upd H p (.lst (List.replicate k.toNat xs).flatten))
theorem RepL.repl {K : PySem.W.Frag} {F : Hp} {m : List Addr} {ds : List D} {vs : List V} (r : RepL K F m ds vs) : ∀ n : Nat, RepL K F m (List.replicate n ds).flatten (List.replicate n vs).flatten
  | 0 => .nil
  | n + 1 => by
    rw [List.replicate_succ, List.replicate_succ, List.flatten_cons, List.flatten_cons]
    exact r.app (RepL.repl r n)
def strRep (x : Str) (n : Int) : Str := if n < 1 then Str.empty else ⟨(List.replicate n.toNat x.cps).foldl (· ++ ·) #[]⟩
def rMulD : R2D := fun d e cs Q => match d, e with
  | .int i, .int j => MulOk i j ∧ Q (.int (i * j)) cs
  | .loc n, .int k => match cs[n]? with
    | some (.lst ds) => 0 ≤ k ∧ k < 2 ^ 20 ∧ ds.length * k.toNat ≤ sizeLine ∧ Q (.loc cs.length) (cs ++ [.lst (List.replicate k.toNat ds).flatten])
    | _ => False
  | .str x, .int k => 1 < k ∧ k < 2 ^ 20 ∧ x.length = 1 ∧ Q (.str (strRep x k)) cs
  | _, _ => False
def RMul : R2 := fun x y H Q => (rI CMul (fun i j => .int (i * j)) x y H Q ∨ rI CMulW (fun i j => .int (i * j)) x y H Q) ∨ rRep x y H Q ∨ (∃ z k, x = .str z ∧ y = .int k ∧ (1 < k ∧ k < 2 ^ 20 ∧ z.length = 1) ∧ Q (.str (strRep z k)) H)
theorem foldl_rep_size (a : Array Nat) : ∀ (n : Nat) (acc : Array Nat), ((List.replicate n a).foldl (· ++ ·) acc).size = acc.size + n * a.size
  | 0, acc => by simp
  | n + 1, acc => by
    rw [List.replicate_succ, List.foldl_cons, foldl_rep_size a n, Array.size_append, Nat.succ_mul]
    omega
theorem op_mul_str {X : Cx} : OpR X (binaryOp .Mult) (fun x y H Q => ∃ z k, x = .str z ∧ y = .int k ∧ (1 < k ∧ k < 2 ^ 20 ∧ z.length = 1) ∧ Q (.str (strRep z k)) H) := by
  intro pins s σ H x y v u Q I rx ry h
  obtain ⟨z, k, rfl, rfl, ⟨h1, h2, h3⟩, q⟩ := h
  obtain ⟨t, rfl⟩ := rx
  obtain ⟨t', rfl⟩ := ry
  have n1 : ¬ k < 1 := by omega
  have n2 : (k == 1 || z.length == 0) = false := by
    rw [h3]
    have : (k == 1) = false := by simp; omega
    rw [this]; rfl
  refine PySem.P.mul_str (by
    rw [decide_eq_false (by omega), decide_eq_false (by omega)]; rfl) (fun _ _ => ?_) (fun _ _ => ?_) ?_
  · rw [h3]
    have : (1 : Int) ≤ (2 ^ 63 - 1) / k := by
      apply (Int.le_ediv_iff_mul_le (by omega)).mpr
      omega
    omega
  · rw [h3]
    show decide (1 * k.toNat > sizeLine) = false
    rw [sizeLine_eq]
    exact decide_eq_false (by omega)
  · rw [if_neg n1, n2]
    unfold strRep at q
    rw [if_neg n1] at q
    refine ⟨?_, .str _, H, I.tok _, ⟨_, rfl⟩, q⟩
    show ((List.replicate k.toNat z.cps).foldl (· ++ ·) #[]).size ≤ sizeLine
    have h3' : z.cps.size = 1 := h3
    rw [foldl_rep_size, h3', sizeLine_eq]
    have : (#[] : Array Nat).size = 0 := rfl
    omega
theorem op_mulA {X : Cx} : OpR X (binaryOp .Mult) RMul := OpR.or (OpR.or op_mul op_mulW) (OpR.or op_rep op_mul_str)
theorem opS_mulA {K : PySem.W.Frag} {T : Tabl} : OpS K T RMul rMulD := by
  intro F m H cs d e v u P Q M r1 r2 h k
  unfold rMulD at h
  split at h
  · rename_i i j
    simp only [Rep] at r1 r2
    have q := k F m H cs _ (.int (i * j)) h.2 M .refl (by simp only [Rep])
    rcases h.1 with z | z
    · exact .inl (.inl ⟨i, j, r1, r2, z, q⟩)
    · exact .inl (.inr ⟨i, j, r1, r2, z, q⟩)
  · rename_i n kk
    simp only [Rep] at r1 r2
    obtain ⟨a, e, q⟩ := r1
    cases hc : cs[n]? with
    | none => rw [hc] at h; exact h.elim
    | some c =>
      rw [hc] at h
      cases c with
      | lst ds =>
        obtain ⟨_, vs, h1, h2⟩ := M.cell n a _ q hc
        obtain ⟨g1, g2, g3, g4⟩ := h
        exact .inr (.inl ⟨a, kk, vs, e, r2, h1, by omega, by omega, by rw [← h2.length]; exact g3, Cont.list k M (h2.repl _) g4⟩)
      | _ => exact h.elim
  · simp only [Rep] at r1 r2
    exact .inr (.inr ⟨_, _, r1, r2, ⟨h.1, h.2.1, h.2.2.1⟩, k F m H cs _ _ h.2.2.2 M .refl (by simp only [Rep])⟩)
  · exact h.elim
end Sim


/-! Sim, part F: equality, isinstance, calls of built-ins, subscripts, slices, displays. -/
namespace Sim
open PySem PySem.Spec PyProof.Rows L2

/-! ### == -/
/-- a tree as the library's data -/
def toPy (cs : CsL) : Nat → D → Option PyData
  | _, .non => some .none
  | _, .bl b => some (.bool b)
  | _, .int i => some (.int i)
  | _, .str x => some (.str x)
  | 0, _ => none
  | f + 1, .tup ds => (ds.mapM (toPy cs f)).map .tuple
  | f + 1, .lst ds => (ds.mapM (toPy cs f)).map .list
  | f + 1, .loc n => match cs[n]? with
    | some (.lst ds) => (ds.mapM (toPy cs f)).map .list
    | _ => none
  | _ + 1, _ => none
section
variable {K : PySem.W.Frag} {T : Tabl} {F H : Hp} {m : List Addr} {cs : CsL} {P : DK} {Q : VK}
theorem dpAll_of {f : D → Option PyData} (h : ∀ d v x, Rep K F m d v → f d = some x → Dp K H v x) : ∀ {ds : List D} {vs : List V} {xs : List PyData}, RepL K F m ds vs → ds.mapM f = some xs → DpAll K H vs xs
  | [], vs, xs, r, e => by
    simp only [RepL] at r
    simp at e
    subst r e
    exact .nil
  | d :: ds, vs, xs, r, e => by
    simp only [RepL] at r
    obtain ⟨v, w, rfl, r1, r2⟩ := r
    rw [List.mapM_cons] at e
    cases q : f d with
    | none => rw [q] at e; cases e
    | some x =>
      rw [q] at e
      cases q2 : ds.mapM f with
      | none => rw [q2] at e; cases e
      | some ys =>
        rw [q2] at e
        cases e
        exact .cons (h d v x r1 q) (dpAll_of h r2 q2)
theorem toPy_dp (M : Mem K T F m H cs) : ∀ (f : Nat) (d : D) (v : V) (x : PyData), Rep K F m d v → toPy cs f d = some x → Dp K H v x := by
  have sc : ∀ (d : D) (v : V) (x : PyData), Rep K F m d v → (match d with | .non => some PyData.none | .bl b => some (.bool b) | .int i => some (.int i) | .str z => some (.str z) | _ => none) = some x → Dp K H v x := by
    intro d v x r e
    cases d <;> simp only [Rep] at r <;> simp only [Option.some.injEq, reduceCtorEq] at e <;> subst r <;> subst e
    · exact .non
    · exact .bl _
    · exact .int _
    · exact .str _
  intro f
  induction f with
  | zero =>
    intro d v x r e
    cases d with
    | non => exact sc _ v x r (by simpa [toPy] using e)
    | bl b => exact sc _ v x r (by simpa [toPy] using e)
    | int b => exact sc _ v x r (by simpa [toPy] using e)
    | str b => exact sc _ v x r (by simpa [toPy] using e)
    | _ => simp [toPy] at e
  | succ f ih =>
    intro d v x r e
    cases d with
    | non => exact sc _ v x r (by simpa [toPy] using e)
    | bl b => exact sc _ v x r (by simpa [toPy] using e)
    | int b => exact sc _ v x r (by simpa [toPy] using e)
    | str b => exact sc _ v x r (by simpa [toPy] using e)
    | tup ds =>
      simp only [toPy] at e
      cases q : ds.mapM (toPy cs f) with
      | none => rw [q] at e; cases e
      | some xs =>
        rw [q] at e
        cases e
        simp only [Rep] at r
        obtain ⟨a, vs, e1, s, rl⟩ := r
        subst e1
        exact .tup (M.sub.sqt s) (dpAll_of ih rl q)
    | lst ds =>
      simp only [toPy] at e
      cases q : ds.mapM (toPy cs f) with
      | none => rw [q] at e; cases e
      | some xs =>
        rw [q] at e
        cases e
        simp only [Rep] at r
        obtain ⟨a, vs, e1, s, rl⟩ := r
        subst e1
        exact .lst (M.sub.sql s) (dpAll_of ih rl q)
    | loc n =>
      simp only [toPy] at e
      simp only [Rep] at r
      obtain ⟨a, e1, q1⟩ := r
      cases hc : cs[n]? with
      | none => rw [hc] at e; cases e
      | some c =>
        rw [hc] at e
        cases c with
        | lst ds =>
          simp only at e
          cases q : ds.mapM (toPy cs f) with
          | none => rw [q] at e; cases e
          | some xs =>
            rw [q] at e
            cases e
            obtain ⟨_, vs, h1, h2⟩ := M.cell n a _ q1 hc
            subst e1
            exact .lst (.of h1) (dpAll_of ih h2 q)
        | _ => cases e
    | _ => simp [toPy] at e
end
def rEqv (neg : Bool) : R2D := fun d e cs Q => match d, e with
  | .int i, .int j => Q (.bl (decide (i = j) != neg)) cs
  | .str i, .str j => Q (.bl (decide (i = j) != neg)) cs
  | .bl i, .bl j => Q (.bl (decide (i = j) != neg)) cs
  | d, e => ∃ f x y, toPy cs f d = some x ∧ toPy cs f e = some y ∧ SeqAt.shaped x = true ∧ SeqAt.shaped y = true ∧ Q (.bl (PyData.eqv x y != neg)) cs
def REq (K : PySem.W.Frag) : R2 := fun x y H Q => L2.rEq x y H Q ∨ rEqD K x y H Q
def RNe (K : PySem.W.Frag) : R2 := fun x y H Q => L2.rNe x y H Q ∨ rNeD K x y H Q
theorem op_eqA {X : Cx} (hu : X.A.units + 64 < cLine) : OpR X (compareOp .Eq) (REq X.K) := OpR.or op_eq (op_eqD hu)
theorem op_neA {X : Cx} (hu : X.A.units + 64 < cLine) : OpR X (compareOp .NotEq) (RNe X.K) := OpR.or op_ne (op_neD hu)
section
variable {K : PySem.W.Frag} {T : Tabl}
theorem opS_eq : OpS K T (REq K) (rEqv false) := by
  intro F m H cs d e v u P Q M r1 r2 h k
  unfold rEqv at h
  split at h
  · simp only [Rep] at r1 r2
    subst r1 r2
    exact .inl ⟨rfl, k F m H cs _ _ h M .refl (by simp [Rep])⟩
  · simp only [Rep] at r1 r2
    subst r1 r2
    exact .inl ⟨rfl, k F m H cs _ _ h M .refl (by simp [Rep])⟩
  · simp only [Rep] at r1 r2
    subst r1 r2
    exact .inl ⟨rfl, k F m H cs _ _ h M .refl (by simp [Rep])⟩
  · obtain ⟨f, x, y, h1, h2, h3, h4, h5⟩ := h
    exact .inr ⟨x, y, toPy_dp M f _ _ _ r1 h1, toPy_dp M f _ _ _ r2 h2, h3, h4, k F m H cs _ _ h5 M .refl (by simp [Rep])⟩
theorem opS_ne : OpS K T (RNe K) (rEqv true) := by
  intro F m H cs d e v u P Q M r1 r2 h k
  unfold rEqv at h
  split at h
  · simp only [Rep] at r1 r2
    subst r1 r2
    exact .inl ⟨rfl, k F m H cs _ _ h M .refl (by simp [Rep])⟩
  · simp only [Rep] at r1 r2
    subst r1 r2
    exact .inl ⟨rfl, k F m H cs _ _ h M .refl (by simp [Rep])⟩
  · simp only [Rep] at r1 r2
    subst r1 r2
    exact .inl ⟨rfl, k F m H cs _ _ h M .refl (by simp [Rep])⟩
  · obtain ⟨f, x, y, h1, h2, h3, h4, h5⟩ := h
    exact .inr ⟨x, y, toPy_dp M f _ _ _ r1 h1, toPy_dp M f _ _ _ r2 h2, h3, h4, k F m H cs _ _ h5 M .refl (by simp [Rep])⟩
/-! is None -/
def isNon : D → Bool | .non => true | _ => false
def rIsN (neg : Bool) : R2D := fun d e cs Q => match e with | .non => Q (.bl (isNon d != neg)) cs | _ => False
theorem rep_non {F : Hp} {m : List Addr} {d : D} {v : V} (r : Rep K F m d v) : decide (v = .non) = isNon d := by
  cases d <;> simp only [Rep] at r
  case non => subst r; rfl
  case tup ds => obtain ⟨a, _, e, _⟩ := r; subst e; rfl
  case lst ds => obtain ⟨a, _, e, _⟩ := r; subst e; rfl
  case dct ds => obtain ⟨a, _, e, _⟩ := r; subst e; rfl
  case loc ds => obtain ⟨a, e, _⟩ := r; subst e; rfl
  all_goals (subst r; rfl)
theorem opS_isN : OpS K T (fun x y H Q => y = .non ∧ Q (.bl (decide (x = .non))) H) (rIsN false) := by
  intro F m H cs d e v u P Q M r1 r2 h k
  unfold rIsN at h
  split at h
  · simp only [Rep] at r2
    refine ⟨r2, ?_⟩
    rw [rep_non r1]
    exact k F m H cs _ _ h M .refl (by simp [Rep])
  · exact h.elim
theorem opS_notN : OpS K T (fun x y H Q => y = .non ∧ Q (.bl (!decide (x = .non))) H) (rIsN true) := by
  intro F m H cs d e v u P Q M r1 r2 h k
  unfold rIsN at h
  split at h
  · simp only [Rep] at r2
    refine ⟨r2, ?_⟩
    rw [rep_non r1]
    exact k F m H cs _ _ h M .refl (by simp [Rep])
  · exact h.elim
/-! a sign in a text -/
@[irreducible] def rInS (neg : Bool) : R2D := fun d e cs Q => match d, e with | .str c, .str z => ∃ n, c = ⟨#[n]⟩ ∧ Q (.bl (decide (n ∈ z.cps.toList) != neg)) cs | _, _ => False
theorem opS_inS : OpS K T (fun x y H Q => ∃ (c : Nat) (z : Str), x = .str ⟨#[c]⟩ ∧ y = .str z ∧ Q (.bl (decide (c ∈ z.cps.toList))) H) (rInS false) := by
  intro F m H cs d e v u P Q M r1 r2 h k
  unfold rInS at h
  split at h
  · simp only [Rep] at r1 r2
    obtain ⟨n, rfl, h⟩ := h
    exact ⟨n, _, r1, r2, k F m H cs _ _ h M .refl (by simp [Rep])⟩
  · exact h.elim
theorem opS_notInS : OpS K T (fun x y H Q => ∃ (c : Nat) (z : Str), x = .str ⟨#[c]⟩ ∧ y = .str z ∧ Q (.bl (!decide (c ∈ z.cps.toList))) H) (rInS true) := by
  intro F m H cs d e v u P Q M r1 r2 h k
  unfold rInS at h
  split at h
  · simp only [Rep] at r1 r2
    obtain ⟨n, rfl, h⟩ := h
    exact ⟨n, _, r1, r2, k F m H cs _ _ h M .refl (by simp [Rep])⟩
  · exact h.elim
end

/-! ### calls of built-ins by values -/
abbrev RLD := List D → CsL → DK → Prop
def CallS (K : PySem.W.Frag) (T : Tabl) (R : List V → Hp → VK → Prop) (r : RLD) : Prop := ∀ (F : Hp) (m : List Addr) (H : Hp) (cs : CsL) (ds : List D) (vs : List V) (P : DK) (Q : VK), Mem K T F m H cs → RepL K F m ds vs → r ds cs P → Cont K T F m H P Q → R vs H Q
def dCallB (r : RLD) (ta : TAD) : TED := fun Ex sl cs Q => ta Ex sl cs fun ds cs1 => r ds cs1 Q
section
variable {B : Bx} {a b c e : Expr} {es : List Expr} {ta tb tc te : TED} {tr : TAD} {pos : Pos}
theorem callB_to {R : List V → Hp → VK → Prop} {r : RLD} (hs : CallS B.X.K B.T R r) : ∀ σ H Q, liftE B (dCallB r tr) σ H Q → tCB R (liftA B tr) σ H Q := fun σ H Q ⟨F, m, cs, sl, Ex, P, A, X, h, k⟩ =>
  ⟨F, m, cs, sl, Ex, _, A, X, h, fun F1 m1 H1 cs1 ds vs p M g rl => hs F1 m1 H1 cs1 ds vs P Q M rl p fun F2 m2 H2 cs2 d v p2 M2 g2 r2 => k F2 m2 H2 cs2 d v p2 M2 (g.trans g2) r2⟩
theorem simE_callB {x : Str} {id : String} {p : Pos} {R : List V → Hp → VK → Prop} {r : RLD} (hc : CallR B.X (.builtin id) R) (hs : CallS B.X.K B.T R r) (hm : B.X.mg x = none) (ha : SimA B (e :: es) tr) (hv : bootBuiltins x = some (.builtin id) := by decide +kernel) (hg : Gl B.X x := by rfl)
    (hn : x ≠ "__name__" := by decide) (hdb : (x == ("__debug__" : Str)) = false := by decide) (he : starEach (e :: es) B.X.env = (false, eval e B.X.env) :: starEach es B.X.env := by rfl) (hpl : (backTo pos (starEach es B.X.env)).any (·.1) = false := by rfl) :
    SimE B (.Call (.Name x p) (e :: es) [] pos) (dCallB r tr) := PE.to (pe_callB hc hg hm hv ha hn hdb he hpl) (callB_to hs)
theorem simE_callTy {x : Str} {T : String} {p : Pos} {R : List V → Hp → VK → Prop} {r : RLD} (hc : CallR B.X (.type T) R) (hs : CallS B.X.K B.T R r) (hm : B.X.mg x = none) (ha : SimA B (e :: es) tr) (hv : bootBuiltins x = some (.type T) := by decide +kernel) (hg : Gl B.X x := by rfl)
    (hn : x ≠ "__name__" := by decide) (hdb : (x == ("__debug__" : Str)) = false := by decide) (he : starEach (e :: es) B.X.env = (false, eval e B.X.env) :: starEach es B.X.env := by rfl) (hpl : (backTo pos (starEach es B.X.env)).any (·.1) = false := by rfl) :
    SimE B (.Call (.Name x p) (e :: es) [] pos) (dCallB r tr) := PE.to (pe_callTy hc hg hm hv ha hn hdb he hpl) (callB_to hs)
/-- a built-in class's name -/
theorem simE_ty {x : Str} {n : String} {p : Pos} (hm : B.X.mg x = none) (hv : bootBuiltins x = some (.type n) := by decide +kernel) (hg : Gl B.X x := by rfl) (hn : x ≠ "__name__" := by decide) (hdb : (x == ("__debug__" : Str)) = false := by decide) : SimE B (.Name x p) (dC (.ty n)) :=
  simE_c (.ty n) (.ty n) (pe_bltn hg hm hv rfl hn hdb) fun F m => by simp only [Rep]
end
/-! isinstance -/
def tyOfD (d : D) (cs : CsL) : Option String := match d with
  | .non => some "NoneType"
  | .bl _ => some "bool"
  | .int _ => some "int"
  | .str _ => some "str"
  | .tup _ => some "tuple"
  | .lst _ => some "list"
  | .dct .. => some "dict"
  | .loc n => match cs[n]? with
    | some (.lst _) => some "list"
    | some (.dic ..) => some "dict"
    | _ => none
  | _ => none
def isT (t n : String) : Bool := t == n || (t == "bool" && n == "int")
theorem kitB_all : (["NoneType", "bool", "int", "str", "tuple", "list", "dict"].all fun t => ["bool", "int", "str", "tuple", "list", "dict"].all fun n => kitB t n == some (isT t n)) = true := by decide +kernel
@[irreducible] def rIsi : RLD := fun ds cs Q => match ds with
  | [d, .ty n] => (["bool", "int", "str", "tuple", "list", "dict"].contains n = true) ∧ ∃ t, tyOfD d cs = some t ∧ Q (.bl (isT t n)) cs
  | _ => False
section
variable {K : PySem.W.Frag} {T : Tabl} {F H : Hp} {m : List Addr} {cs : CsL} {d : D} {v : V}
theorem rd_frz {a : Addr} {u : HO} (r : Rd H a u) : H a = some u ∨ ∃ o, H a = some (.frz o u) := r
theorem tyOfD_ok (M : Mem K T F m H cs) (r : Rep K F m d v) {t : String} (h : tyOfD d cs = some t) : TyX K H v (.type t) ∧ ["NoneType", "bool", "int", "str", "tuple", "list", "dict"].contains t = true := by
  cases d with
  | non => cases h; simp only [Rep] at r; subst r; exact ⟨.base .non, by decide⟩
  | bl b => cases h; simp only [Rep] at r; subst r; exact ⟨.base (.bl b), by decide⟩
  | int b => cases h; simp only [Rep] at r; subst r; exact ⟨.base (.int b), by decide⟩
  | str b => cases h; simp only [Rep] at r; subst r; exact ⟨.base (.str b), by decide⟩
  | tup ds =>
    cases h
    simp only [Rep] at r
    obtain ⟨a, vs, e, s, _⟩ := r
    subst e
    refine ⟨?_, by decide⟩
    rcases M.sub.sqt s with (s | ⟨o, s⟩) | ⟨o, its, n, s, c, _⟩
    · exact .base (.tup s)
    · exact .fTuple s
    · exact .kTuple s c
  | lst ds =>
    cases h
    simp only [Rep] at r
    obtain ⟨a, vs, e, s, _⟩ := r
    subst e
    refine ⟨?_, by decide⟩
    rcases M.sub.sql s with (s | ⟨o, s⟩) | ⟨o, its, n, s, c, _⟩
    · exact .base (.lst s)
    · exact .base (.frz s)
    · exact .kList s c
  | dct ks ds =>
    cases h
    simp only [Rep] at r
    obtain ⟨a, vs, e, s, _⟩ := r
    subst e
    refine ⟨?_, by decide⟩
    rcases M.sub.rd s with s | ⟨o, s⟩
    · exact .base (.dK s)
    · exact .fDict s
  | loc n =>
    simp only [Rep] at r
    obtain ⟨a, e, q⟩ := r
    subst e
    simp only [tyOfD] at h
    cases hc : cs[n]? with
    | none => rw [hc] at h; cases h
    | some c =>
      rw [hc] at h
      have := M.cell n a c q hc
      cases c with
      | lst ds =>
        cases h
        obtain ⟨_, vs, h1, _⟩ := this
        exact ⟨.base (.lst h1), by decide⟩
      | dic ks ds =>
        cases h
        obtain ⟨_, vs, h1, _⟩ := this
        exact ⟨.base (.dK h1), by decide⟩
      | gone => cases h
  | fn _ => cases h
  | ty _ => cases h
theorem callS_isi : CallS K T (L2.rIsi K) rIsi := by
  intro F m H cs ds vs P Q M r h k
  unfold rIsi at h
  split at h
  · rename_i d n
    obtain ⟨hn, t, ht, h⟩ := h
    simp only [RepL] at r
    obtain ⟨v, w, rfl, r1, u, w', rfl, r2, rfl⟩ := r
    simp only [Rep] at r2
    subst r2
    obtain ⟨ty, hl⟩ := tyOfD_ok M r1 ht
    have all := kitB_all
    rw [List.all_eq_true] at all
    have a2 := all t (by simpa using hl)
    rw [List.all_eq_true] at a2
    have a3 := a2 n (by simpa using hn)
    exact ⟨v, .ty n, .type t, .type n, isT t n, rfl, .ty n, ty, kit_ty (by simpa using a3), k F m H cs _ _ h M .refl (by simp [Rep])⟩
  · exact h.elim
/-! len -/
def lenD (d : D) (cs : CsL) : Option Nat := match d with
  | .str x => if x.length ≤ sizeLine then some x.length else none
  | d => (seqOf d cs).map (·.length)
def rLen : RLD := fun ds cs Q => match ds with
  | [d] => ∃ n, lenD d cs = some n ∧ Q (.int n) cs
  | _ => False
theorem callS_len : CallS K T (fun xs H Q => ∃ x n, xs = [x] ∧ LenV K x H n ∧ Q (.int n) H) rLen := by
  intro F m H cs ds vs P Q M r h k
  unfold rLen at h
  split at h
  · rename_i d
    obtain ⟨n, hn, h⟩ := h
    simp only [RepL] at r
    obtain ⟨v, w, rfl, r1, rfl⟩ := r
    refine ⟨v, n, rfl, ?_, k F m H cs _ _ h M .refl (by simp [Rep])⟩
    have key : ∀ {d : D}, Rep K F m d v → (seqOf d cs).map (·.length) = some n → LenV K v H n := fun {d} r1 hn => by
      cases q : seqOf d cs with
      | none => rw [q] at hn; cases hn
      | some xs =>
        rw [q] at hn
        cases hn
        obtain ⟨a, us, e, s, rl⟩ := seqOf_ok M r1 q
        subst e
        rcases s with s | s
        · exact .inl ⟨us, s, rl.length⟩
        · exact .inr ⟨us, s, rl.length⟩
    cases d with
    | str x =>
      simp only [lenD] at hn
      simp only [Rep] at r1
      subst r1
      split at hn
      · rename_i hl
        cases hn
        exact ⟨hl, rfl⟩
      · cases hn
    | _ => exact key r1 hn
  · exact h.elim
/-! abs, max, min, int, str -/
def rAbs : RLD := fun ds cs Q => match ds with | [.int i] => Q (.int (if i < 0 then -i else i)) cs | _ => False
theorem callS_abs : CallS K T (fun xs H Q => ∃ i, xs = [.int i] ∧ Q (.int (if i < 0 then -i else i)) H) rAbs := by
  intro F m H cs ds vs P Q M r h k
  unfold rAbs at h
  split at h
  · rename_i i
    exact ⟨i, RepL.vints (ns := [i]) r, k F m H cs _ _ h M .refl (by simp [Rep])⟩
  · exact h.elim
def rMax2 : RLD := fun ds cs Q => match ds with | [.int i, .int j] => Q (.int (if j > i then j else i)) cs | _ => False
theorem callS_max2 : CallS K T (fun xs H Q => ∃ i j, xs = [.int i, .int j] ∧ Q (.int (if j > i then j else i)) H) rMax2 := by
  intro F m H cs ds vs P Q M r h k
  unfold rMax2 at h
  split at h
  · rename_i i j
    exact ⟨i, j, RepL.vints (ns := [i, j]) r, k F m H cs _ _ h M .refl (by simp [Rep])⟩
  · exact h.elim
def rMin2 : RLD := fun ds cs Q => match ds with | [.int i, .int j] => Q (.int (if j < i then j else i)) cs | _ => False
theorem callS_min2 : CallS K T (fun xs H Q => ∃ i j, xs = [.int i, .int j] ∧ Q (.int (if j < i then j else i)) H) rMin2 := by
  intro F m H cs ds vs P Q M r h k
  unfold rMin2 at h
  split at h
  · rename_i i j
    exact ⟨i, j, RepL.vints (ns := [i, j]) r, k F m H cs _ _ h M .refl (by simp [Rep])⟩
  · exact h.elim
def rInt1 : RLD := fun ds cs Q => match ds with | [.int i] => Q (.int i) cs | [.bl b] => Q (.int (if b then 1 else 0)) cs | _ => False
theorem callS_int1 : CallS K T (fun xs H Q => (∃ i, xs = [.int i] ∧ Q (.int i) H) ∨ ∃ k, xs = [.bl k] ∧ Q (.int (if k then 1 else 0)) H) rInt1 := by
  intro F m H cs ds vs P Q M r h k
  unfold rInt1 at h
  split at h
  · rename_i i
    exact .inl ⟨i, RepL.vints (ns := [i]) r, k F m H cs _ _ h M .refl (by simp [Rep])⟩
  · rename_i i
    exact .inr ⟨i, RepL.vbls (ns := [i]) r, k F m H cs _ _ h M .refl (by simp [Rep])⟩
  · exact h.elim
def rStr1 : RLD := fun ds cs Q => match ds with | [.int i] => i.natAbs.log2 < 1920 ∧ Q (.str (toString i)) cs | _ => False
theorem callS_str1 : CallS K T (fun xs H Q => ∃ i, xs = [.int i] ∧ i.natAbs.log2 < 1920 ∧ Q (.str (toString i)) H) rStr1 := by
  intro F m H cs ds vs P Q M r h k
  unfold rStr1 at h
  split at h
  · rename_i i
    exact ⟨i, RepL.vints (ns := [i]) r, h.1, k F m H cs _ _ h.2 M .refl (by simp [Rep])⟩
  · exact h.elim
/-! list(x), tuple(x), all, any -/
def rList : RLD := fun ds cs Q => match ds with | [d] => (∃ xs, seqOf d cs = some xs ∧ Q (.loc cs.length) (cs ++ [.lst xs])) | _ => False
theorem callS_list : CallS K T (fun xs H Q => ∃ p ys, xs = [.ref p] ∧ (SqL K H p ys ∨ SqT K H p ys) ∧ ∀ l, H l = none → Q (.ref l) (upd H l (.lst ys))) rList := by
  intro F m H cs ds vs P Q M r h k
  unfold rList at h
  split at h
  · obtain ⟨xs, q, h⟩ := h
    simp only [RepL] at r
    obtain ⟨v, w, rfl, r1, rfl⟩ := r
    obtain ⟨a, us, e, s, rl⟩ := seqOf_ok M r1 q
    subst e
    exact ⟨a, us, rfl, s, Cont.list k M rl h⟩
  · exact h.elim
def rTuple : RLD := fun ds cs Q => match ds with | [d] => (∃ xs, seqOf d cs = some xs ∧ Q (.tup xs) cs) | _ => False
theorem callS_tuple : CallS K T (fun xs H Q => ∃ p ys, xs = [.ref p] ∧ ((SqL K H p ys ∧ ∀ l, H l = none → Q (.ref l) (upd H l (.tup ys))) ∨ (SqT K H p ys ∧ Q (.ref p) H))) rTuple := by
  intro F m H cs ds vs P Q M r h k
  unfold rTuple at h
  split at h
  · rename_i d
    obtain ⟨xs, q, h⟩ := h
    simp only [RepL] at r
    obtain ⟨v, w, rfl, r1, rfl⟩ := r
    have key : ∀ {d : D}, Rep K F m d v → lstOf d cs = some xs → ∃ p ys, [v] = [V.ref p] ∧ ((SqL K H p ys ∧ ∀ l, H l = none → Q (.ref l) (upd H l (.tup ys))) ∨ (SqT K H p ys ∧ Q (.ref p) H)) := fun {d} r1 q => by
      obtain ⟨a, us, e, s, rl⟩ := lstOf_ok M r1 q
      subst e
      exact ⟨a, us, rfl, .inl ⟨s, Cont.tup k M rl h⟩⟩
    cases d with
    | tup ds =>
      simp only [seqOf] at q
      cases q
      have r0 := r1
      simp only [Rep] at r1
      obtain ⟨a, us, e, s, rl⟩ := r1
      subst e
      exact ⟨a, us, rfl, .inr ⟨M.sub.sqt s, k F m H cs _ _ h M .refl r0⟩⟩
    | _ => exact key r1 q
  · exact h.elim
@[irreducible] def rAll : RLD := fun ds cs Q => match ds with | [d] => (∃ bs : List Bool, lstOf d cs = some (bs.map D.bl) ∧ Q (.bl (bs.all id)) cs) | _ => False
theorem callS_all : CallS K T (L2.rAll K) rAll := by
  intro F m H cs ds vs P Q M r h k
  unfold rAll at h
  split at h
  · obtain ⟨xs, q, h⟩ := h
    simp only [RepL] at r
    obtain ⟨v, w, rfl, r1, rfl⟩ := r
    obtain ⟨a, us, e, s, rl⟩ := lstOf_ok M r1 q
    have := RepL.vbls rl
    subst e this
    exact ⟨a, xs, rfl, s, k F m H cs _ _ h M .refl (by simp [Rep])⟩
  · exact h.elim
@[irreducible] def rAny : RLD := fun ds cs Q => match ds with | [d] => (∃ bs : List Bool, lstOf d cs = some (bs.map D.bl) ∧ Q (.bl (bs.any id)) cs) | _ => False
theorem callS_any : CallS K T (L2.rAny K) rAny := by
  intro F m H cs ds vs P Q M r h k
  unfold rAny at h
  split at h
  · obtain ⟨xs, q, h⟩ := h
    simp only [RepL] at r
    obtain ⟨v, w, rfl, r1, rfl⟩ := r
    obtain ⟨a, us, e, s, rl⟩ := lstOf_ok M r1 q
    have := RepL.vbls rl
    subst e this
    exact ⟨a, xs, rfl, s, k F m H cs _ _ h M .refl (by simp [Rep])⟩
  · exact h.elim
end
end Sim


/-! Sim, part G: subscripts, slices, displays, methods, dicts, comprehensions. -/
namespace Sim
open PySem PySem.Spec PyProof.Rows L2

/-! ### x[i] -/
def rIxD : R2D := fun d e cs Q => match e with
  | .int i => match d with
    | .str z => z.length ≤ sizeLine ∧ ∃ c, atI z.cps.toList i = some c ∧ Q (.str ⟨#[c]⟩) cs
    | d => ∃ xs x, seqOf d cs = some xs ∧ atI xs i = some x ∧ Q x cs
  | _ => False
section
variable {K : PySem.W.Frag} {T : Tabl}
theorem atI_rep {F : Hp} {m : List Addr} {ds : List D} {vs : List V} {i : Int} {d : D} (r : RepL K F m ds vs) (h : atI ds i = some d) : ∃ v, atI vs i = some v ∧ Rep K F m d v := by
  unfold atI at h ⊢
  rw [← r.length]
  cases q : ixN ds.length i with
  | none => rw [q] at h; cases h
  | some j =>
    rw [q] at h
    exact r.get h
theorem opS_ix : OpS K T (L2.rIx K) rIxD := by
  intro F m H cs d e v u P Q M r1 r2 h k
  unfold rIxD at h
  split at h
  · rename_i i
    simp only [Rep] at r2
    have key : ∀ {d : D}, Rep K F m d v → (∃ xs x, seqOf d cs = some xs ∧ atI xs i = some x ∧ P x cs) → L2.rIx K v u H Q := fun {d} r1 ⟨xs, x, q, hx, h⟩ => by
      obtain ⟨a, vs, e, s, rl⟩ := seqOf_ok M r1 q
      obtain ⟨y, hy, ry⟩ := atI_rep rl hx
      have := k F m H cs _ _ h M .refl ry
      rcases s with s | s
      · exact .inl ⟨a, vs, i, y, e, r2, s, hy, this⟩
      · exact .inr (.inl ⟨a, vs, i, y, e, r2, s, hy, this⟩)
    split at h
    · rename_i z
      simp only [Rep] at r1
      obtain ⟨hz, c, hc, h⟩ := h
      exact .inr (.inr ⟨z, i, c, r1, r2, hz, hc, k F m H cs _ _ h M .refl (by simp [Rep])⟩)
    · exact key r1 h
  · exact h.elim
end
/-! ### slices -/
abbrev TOD := ExW → Sl → CsL → (Option Int → CsL → Prop) → Prop
def liftO (B : Bx) (t : TOD) : TO := fun σ H Q => ∃ (F : Hp) (m : List Addr) (cs : CsL) (sl : Sl) (Ex : ExW) (P : Option Int → CsL → Prop), At B.X.K B.T B.w σ sl H cs F m ∧ ExOk B.X.K B.T B.w B.E Ex ∧ t Ex sl cs P ∧
  ∀ (F' : Hp) (m' : List Addr) (H' : Hp) (cs' : CsL) (o : Option Int), P o cs' → Mem B.X.K B.T F' m' H' cs' → Grow F m H F' m' H' → Q o H'
def SimO (B : Bx) (e : Option Expr) (t : TOD) : Prop := PO B.X e (liftO B t)
theorem PO.to {X : Cx} {e : Option Expr} {t u : TO} (h : PO X e t) (hu : ∀ σ H Q, u σ H Q → t σ H Q) : PO X e u := ⟨fun pins s σ H Q I q => h.run pins s σ H Q I (hu _ _ _ q)⟩
def oNone : TOD := fun _ _ cs Q => Q none cs
def oSome (te : TED) : TOD := fun Ex sl cs Q => te Ex sl cs fun d cs1 => match d with | .int i => Q (some i) cs1 | _ => False
def cutA {α : Type} (xs : List α) (lo hi : Option Int) : List α := (xs.drop (HT.sIx xs.length 0 lo)).take (HT.sIx xs.length xs.length hi - HT.sIx xs.length 0 lo)
def rSlD (d : D) (lo hi : Option Int) (cs : CsL) (Q : DK) : Prop := match d with
  | .str z => z.length ≤ sizeLine ∧ Q (.str (cutS z lo hi)) cs
  | .tup xs => Q (.tup (cutA xs lo hi)) cs
  | d => ∃ xs, lstOf d cs = some xs ∧ Q (.loc cs.length) (cs ++ [.lst (cutA xs lo hi)])
def dSl (te : TED) (tl th : TOD) : TED := fun Ex sl cs Q => te Ex sl cs fun d cs1 => tl Ex sl cs1 fun lo cs2 => th Ex sl cs2 fun hi cs3 => rSlD d lo hi cs3 Q
def dRevL (te : TED) : TED := fun Ex sl cs Q => te Ex sl cs fun d cs1 => ∃ xs, lstOf d cs1 = some xs ∧ Q (.loc cs1.length) (cs1 ++ [.lst xs.reverse])
section
variable {B : Bx} {a b c e : Expr} {es : List Expr} {ta tb tc te : TED} {tr : TAD} {tl th : TOD} {lo hi : Option Expr} {pos : Pos}
theorem simO_none : SimO B none oNone := PO.to po_none fun σ H Q ⟨F, m, cs, sl, Ex, P, A, X, h, k⟩ => k F m H cs none h A.mem .refl
theorem simO_some (h : SimE B e te) : SimO B (some e) (oSome te) := PO.to (po_some h) fun σ H Q ⟨F, m, cs, sl, Ex, P, A, X, h, k⟩ => ⟨F, m, cs, sl, Ex, _, A, X, h, fun F1 m1 H1 cs1 d v p M g r => by
    cases d with
    | int i =>
      simp only [Rep] at r
      exact ⟨i, r, k F1 m1 H1 cs1 _ p M g⟩
    | _ => exact p.elim⟩
theorem cutA_rep {K : PySem.W.Frag} {F : Hp} {m : List Addr} {ds : List D} {vs : List V} (lo hi : Option Int) (r : RepL K F m ds vs) : RepL K F m (cutA ds lo hi) (cutV vs lo hi) := by
  unfold cutA cutV
  rw [← r.length]
  exact (r.drop _).take _
theorem cutA_whole {α : Type} (xs : List α) (lo hi : Option Int) (h : HT.sIx xs.length 0 lo = 0 ∧ HT.sIx xs.length xs.length hi = xs.length) : cutA xs lo hi = xs := by
  unfold cutA
  rw [h.1, h.2]
  simp
def RSl (K : PySem.W.Frag) : V → Option Int → Option Int → Hp → VK → Prop := fun x lo hi H Q => rSlS x lo hi H Q ∨ rSlA K x lo hi H Q ∨ rSlL K x lo hi H Q
theorem sl_all {X : Cx} : L2.SlR X (RSl X.K) := L2.SlR.or sl_str (L2.SlR.or sl_tupA sl_list)
theorem simE_slice {p2 : Pos} (he : SimE B e te) (hl : SimO B lo tl) (hh : SimO B hi th) : SimE B (.Subscript e (.Slice lo hi none p2) pos) (dSl te tl th) :=
  PE.to (pe_slice sl_all he hl hh) fun σ H Q ⟨F, m, cs, sl, Ex, P, A, X, h, k⟩ => ⟨F, m, cs, sl, Ex, _, A, X, h, fun F1 m1 H1 cs1 d v p1 M1 g1 r1 => ⟨F1, m1, cs1, sl, Ex, _, A.step M1 g1, X, p1, fun F2 m2 H2 cs2 l p2 M2 g2 =>
    ⟨F2, m2, cs2, sl, Ex, _, A.step M2 (g1.trans g2), X, p2, fun F3 m3 H3 cs3 u p3 M3 g3 => by
      have k' : Cont B.X.K B.T F3 m3 H3 P Q := fun F4 m4 H4 cs4 d4 v4 p4 M4 g4 r4 => k F4 m4 H4 cs4 d4 v4 p4 M4 (((g1.trans g2).trans g3).trans g4) r4
      have r3 := (g2.trans g3).rep r1
      have key : ∀ {d : D}, Rep B.X.K F3 m3 d v → (∃ xs, lstOf d cs3 = some xs ∧ P (.loc cs3.length) (cs3 ++ [.lst (cutA xs l u)])) → rSlL B.X.K v l u H3 Q := fun {d} r3 ⟨xs, q, p⟩ => by
        obtain ⟨a, vs, e, s, rl⟩ := lstOf_ok M3 r3 q
        exact ⟨a, vs, e, s, Cont.list k' M3 (cutA_rep l u rl) p⟩
      cases d with
      | str z =>
        simp only [Rep] at r3
        exact .inl ⟨z, r3, p3.1, k' F3 m3 H3 cs3 _ _ p3.2 M3 .refl (by simp [Rep])⟩
      | tup xs =>
        have r3' := r3
        simp only [Rep] at r3
        obtain ⟨a, vs, e, s, rl⟩ := r3
        refine .inr (.inl ⟨a, vs, e, M3.sub.sqt s, fun z => ?_, fun _ => Cont.tup k' M3 (cutA_rep l u rl) p3⟩)
        have p3' : P (.tup (cutA xs l u)) cs3 := p3
        rw [cutA_whole xs l u (by rw [rl.length]; exact z)] at p3'
        rw [e] at r3'
        exact k' F3 m3 H3 cs3 _ _ p3' M3 .refl r3'
      | _ => exact .inr (.inr (key r3 p3))⟩⟩⟩
theorem simE_rev {k : Nat} {p1 p2 p3 : Pos} (he : SimE B e te) : SimE B (.Subscript e (.Slice none none (some (.UnaryOp .USub (.Constant (.int 1) k p1) p2)) p3) pos) (dRevL te) :=
  PE.to (pe_revL he) fun σ H Q ⟨F, m, cs, sl, Ex, P, A, X, h, k⟩ => ⟨F, m, cs, sl, Ex, _, A, X, h, fun F1 m1 H1 cs1 d v ⟨xs, q, p⟩ M g r => by
    obtain ⟨a, vs, e, s, rl⟩ := lstOf_ok M r q
    exact ⟨a, vs, e, s, Cont.list (fun F2 m2 H2 cs2 d2 v2 p2 M2 g2 r2 => k F2 m2 H2 cs2 d2 v2 p2 M2 (g.trans g2) r2) M rl.rev p⟩⟩
theorem simE_ix (ha : SimE B a ta) (hb : SimE B b tb) (hs : PlainIx b := by exact fun _ _ => rfl) : SimE B (.Subscript a b pos) (dBin rIxD ta tb) := PE.to (pe_ix ix_seq ha hb hs) (bin_to opS_ix)
/-! ### displays -/
def dTup (tr : TAD) : TED := fun Ex sl cs Q => tr Ex sl cs fun ds cs1 => ds.length ≤ sizeLine ∧ Q (.tup ds) cs1
def dLst (tr : TAD) : TED := fun Ex sl cs Q => tr Ex sl cs fun ds cs1 => ds.length ≤ sizeLine ∧ Q (.loc cs1.length) (cs1 ++ [.lst ds])
theorem simE_tup {x1} (ha : SimA B es tr) : SimE B (.Tuple es x1 pos) (dTup tr) := PE.to (pe_tup ha) fun σ H Q ⟨F, m, cs, sl, Ex, P, A, X, h, k⟩ => ⟨F, m, cs, sl, Ex, _, A, X, h, fun F1 m1 H1 cs1 ds vs ⟨hl, p⟩ M g r =>
  ⟨by rw [← r.length]; exact hl, Cont.tup (fun F2 m2 H2 cs2 d2 v2 p2 M2 g2 r2 => k F2 m2 H2 cs2 d2 v2 p2 M2 (g.trans g2) r2) M r p⟩⟩
theorem simE_lst (ha : SimA B es tr) : SimE B (.List es pos) (dLst tr) := PE.to (pe_lst ha) fun σ H Q ⟨F, m, cs, sl, Ex, P, A, X, h, k⟩ => ⟨F, m, cs, sl, Ex, _, A, X, h, fun F1 m1 H1 cs1 ds vs ⟨hl, p⟩ M g r =>
  ⟨by rw [← r.length]; exact hl, Cont.list (fun F2 m2 H2 cs2 d2 v2 p2 M2 g2 r2 => k F2 m2 H2 cs2 d2 v2 p2 M2 (g.trans g2) r2) M r p⟩⟩
/-! ### unary -/
def dNeg (ta : TED) : TED := fun Ex sl cs Q => ta Ex sl cs fun d cs1 => match d with | .int i => Q (.int (-i)) cs1 | _ => False
theorem simE_neg (ha : SimE B a ta) : SimE B (.UnaryOp .USub a pos) (dNeg ta) := PE.to (pe_un un_neg ha) fun σ H Q ⟨F, m, cs, sl, Ex, P, A, X, h, k⟩ => ⟨F, m, cs, sl, Ex, _, A, X, h, fun F1 m1 H1 cs1 d v p M g r => by
    cases d with
    | int i =>
      simp only [Rep] at r
      exact ⟨i, r, k F1 m1 H1 cs1 _ _ p M g (by simp [Rep])⟩
    | _ => exact p.elim⟩
/-! ### methods -/
abbrev RMD := D → List D → CsL → DK → Prop
def MethS (K : PySem.W.Frag) (T : Tabl) (R : V → List V → Hp → VK → Prop) (r : RMD) : Prop := ∀ (F : Hp) (m : List Addr) (H : Hp) (cs : CsL) (d : D) (v : V) (ds : List D) (vs : List V) (P : DK) (Q : VK), Mem K T F m H cs → Rep K F m d v → RepL K F m ds vs → r d ds cs P → Cont K T F m H P Q → R v vs H Q
def tyM (T : String) (d : D) (cs : CsL) : Prop := match d with
  | .str _ => T = "str"
  | d => T = "list" ∧ ∃ xs, lstOf d cs = some xs
theorem tyM_ok {K : PySem.W.Frag} {Tb : Tabl} {F H : Hp} {m : List Addr} {cs : CsL} {d : D} {v : V} {T : String} (M : Mem K Tb F m H cs) (r : Rep K F m d v) (h : tyM T d cs) : tyV K T v H := by
  have key : ∀ {d : D}, Rep K F m d v → (T = "list" ∧ ∃ xs, lstOf d cs = some xs) → tyV K T v H := fun {d} r ⟨e, xs, q⟩ => by
    obtain ⟨a, vs, e1, s, rl⟩ := lstOf_ok M r q
    subst e1
    exact .inl ⟨e, vs, s⟩
  cases d with
  | str x =>
    simp only [Rep] at r
    subst r
    exact h
  | _ => exact key r h
def dMeth (T : String) (r : RMD) (ta : TED) (tr : TAD) : TED := fun Ex sl cs Q => ta Ex sl cs fun d cs1 => tyM T d cs1 ∧ tr Ex sl cs1 fun ds cs2 => r d ds cs2 Q
def dMeth0 (T : String) (r : RMD) (ta : TED) : TED := fun Ex sl cs Q => ta Ex sl cs fun d cs1 => tyM T d cs1 ∧ r d [] cs1 Q
theorem simE_meth {T id : String} {name : Str} {apos cpos : Pos} {R : V → List V → Hp → VK → Prop} {r : RMD} (pa : PlainAttrs T) (slot : Slot T name id) (hty : typeOf (.builtin id) = pure (.type "method_descriptor")) (hm : MtR B.X id R) (hs : MethS B.X.K B.T R r) (ho : SimE B a ta) (ha : SimA B (e :: es) tr)
    (hbase : attributeBase a name B.X.env (eval a B.X.env) = eval a B.X.env := by rfl)
    (hfew : ((backTo cpos (starEach (e :: es) B.X.env)).all (fun x => !x.1) && (backToKw cpos (keywordEach [] B.X.env)).all (fun x => x.1.isSome)
      && decide ((e :: es).length + ([] : List Keyword).length + (if ([] : List Keyword).isEmpty then 0 else 1) < 30)) = true := by rfl)
    (hline : (apos.endLine == cpos.line) = true := by rfl) (hst : starEach (e :: es) B.X.env = (false, eval e B.X.env) :: starEach es B.X.env := by rfl) (hplain : (backTo cpos (starEach es B.X.env)).any (·.1) = false := by rfl) :
    SimE B (.Call (.Attribute a name apos) (e :: es) [] cpos) (dMeth T r ta tr) := PE.to (pe_bm pa slot hty hm ho ha hbase hfew hline hst hplain) fun σ H Q ⟨F, m, cs, sl, Ex, P, A, X, h, k⟩ =>
  ⟨F, m, cs, sl, Ex, _, A, X, h, fun F1 m1 H1 cs1 d v ⟨ty, p⟩ M1 g1 r1 => ⟨tyM_ok M1 r1 ty, F1, m1, cs1, sl, Ex, _, A.step M1 g1, X, p, fun F2 m2 H2 cs2 ds vs p2 M2 g2 r2 =>
    hs F2 m2 H2 cs2 d v ds vs P Q M2 (g2.rep r1) r2 p2 fun F3 m3 H3 cs3 d3 v3 p3 M3 g3 r3 => k F3 m3 H3 cs3 d3 v3 p3 M3 ((g1.trans g2).trans g3) r3⟩⟩
theorem simE_meth0 {T id : String} {name : Str} {apos cpos : Pos} {R : V → List V → Hp → VK → Prop} {r : RMD} (pa : PlainAttrs T) (slot : Slot T name id) (hty : typeOf (.builtin id) = pure (.type "method_descriptor")) (hm : MtR B.X id R) (hs : MethS B.X.K B.T R r) (ho : SimE B a ta)
    (hbase : attributeBase a name B.X.env (eval a B.X.env) = eval a B.X.env := by rfl) (hline : (apos.endLine == cpos.line) = true := by rfl) :
    SimE B (.Call (.Attribute a name apos) [] [] cpos) (dMeth0 T r ta) := PE.to (pe_bm0 pa slot hty hm ho hbase hline) fun σ H Q ⟨F, m, cs, sl, Ex, P, A, X, h, k⟩ =>
  ⟨F, m, cs, sl, Ex, _, A, X, h, fun F1 m1 H1 cs1 d v ⟨ty, p⟩ M1 g1 r1 => ⟨tyM_ok M1 r1 ty,
    hs F1 m1 H1 cs1 d v [] [] P Q M1 r1 .nil p fun F3 m3 H3 cs3 d3 v3 p3 M3 g3 r3 => k F3 m3 H3 cs3 d3 v3 p3 M3 (g1.trans g3) r3⟩⟩
end
section
variable {K : PySem.W.Frag} {T : Tabl}
/-- the list in a cell, changed -/
def onCell (d : D) (cs : CsL) (k : Nat → List D → Prop) : Prop := match d with
  | .loc n => match cs[n]? with
    | some (.lst xs) => k n xs
    | _ => False
  | _ => False
theorem onCell_ok {F H : Hp} {m : List Addr} {cs : CsL} {d : D} {v : V} {k : Nat → List D → Prop} (M : Mem K T F m H cs) (r : Rep K F m d v) (h : onCell d cs k) : ∃ n xs a vs, d = .loc n ∧ k n xs ∧ v = .ref a ∧ m[n]? = some a ∧ F a = none ∧ H a = some (.lst vs) ∧ RepL K F m xs vs := by
  cases d with
  | loc n =>
    simp only [onCell] at h
    simp only [Rep] at r
    obtain ⟨a, e, q⟩ := r
    cases hc : cs[n]? with
    | none => rw [hc] at h; exact h.elim
    | some c =>
      rw [hc] at h
      cases c with
      | lst xs =>
        obtain ⟨h1, vs, h2, h3⟩ := M.cell n a _ q hc
        exact ⟨n, xs, a, vs, rfl, h, e, q, h1, h2, h3⟩
      | _ => exact h.elim
  | _ => exact h.elim
@[irreducible] def mAppend : RMD := fun d ds cs Q => match ds with | [e] => onCell d cs fun n xs => xs.length < sizeLine ∧ Q .non (cs.set n (.lst (xs ++ [e]))) | _ => False
theorem methS_append : MethS K T rAppend mAppend := by
  intro F m H cs d v ds vs P Q M r rl h k
  unfold mAppend at h
  split at h
  · rename_i e
    obtain ⟨n, xs, a, us, rfl, ⟨hl, h⟩, rfl, hm, hF, hH, rx⟩ := onCell_ok M r h
    simp only [RepL] at rl
    obtain ⟨u, w, rfl, re, rfl⟩ := rl
    exact ⟨a, us, u, rfl, rfl, hH, by rw [← rx.length]; exact hl, Cont.write k M hm hF (rx.app (.cons re .nil)) (by simp [Rep]) h⟩
  · exact h.elim
@[irreducible] def mPop : RMD := fun d ds cs Q => match ds with | [] => onCell d cs fun n xs => ∃ e, xs[xs.length - 1]? = some e ∧ Q e (cs.set n (.lst xs.dropLast)) | _ => False
theorem methS_pop : MethS K T rPop mPop := by
  intro F m H cs d v ds vs P Q M r rl h k
  unfold mPop at h
  split at h
  · obtain ⟨n, xs, a, us, rfl, ⟨e, he, h⟩, rfl, hm, hF, hH, rx⟩ := onCell_ok M r h
    simp only [RepL] at rl
    obtain ⟨u, hu, re⟩ := rx.get he
    rw [rx.length] at hu
    exact ⟨a, us, u, rfl, rl, hH, hu, Cont.write k M hm hF rx.dropLast re h⟩
  · exact h.elim
/-- xs.extend(ys), ys another list -/
def rExtQ (K : PySem.W.Frag) : V → List V → Hp → VK → Prop := fun x vs H Q => ∃ l b xs zs, x = .ref l ∧ vs = [.ref b] ∧ H l = some (.lst xs) ∧ H b = some (.lst zs) ∧ xs.length + zs.length ≤ sizeLine ∧ Q .non (upd H l (.lst (xs ++ zs)))
@[irreducible] def mExtend : RMD := fun d ds cs Q => match ds with | [e] => onCell d cs fun n xs => onCell e cs fun _ ys => xs.length + ys.length ≤ sizeLine ∧ Q .non (cs.set n (.lst (xs ++ ys))) | _ => False
theorem methS_extend : MethS K T rExtend mExtend := by
  intro F m H cs d v ds vs P Q M r rl h k
  unfold mExtend at h
  split at h
  · rename_i e
    obtain ⟨n, xs, a, us, rfl, h, rfl, hm, hF, hH, rx⟩ := onCell_ok M r h
    simp only [RepL] at rl
    obtain ⟨u, w, rfl, re, rfl⟩ := rl
    obtain ⟨n2, ys, b, ws, rfl, ⟨hl, h⟩, rfl, hm2, hF2, hH2, ry⟩ := onCell_ok M re h
    exact ⟨a, b, us, ws, rfl, rfl, hH, hH2, by rw [← rx.length, ← ry.length]; exact hl, Cont.write k M hm hF (rx.app ry) (by simp [Rep]) h⟩
  · exact h.elim
def mUpper : RMD := fun d ds cs Q => match d, ds with | .str a, [] => a.length ≤ 5592405 ∧ Q (.str (Txt.upper a)) cs | _, _ => False
theorem methS_upper : MethS K T (fun x xs H Q => ∃ a, x = .str a ∧ xs = [] ∧ a.length ≤ 5592405 ∧ Q (.str (Txt.upper a)) H) mUpper := by
  intro F m H cs d v ds vs P Q M r rl h k
  unfold mUpper at h
  split at h
  · simp only [Rep] at r
    simp only [RepL] at rl
    exact ⟨_, r, rl, h.1, k F m H cs _ _ h.2 M .refl (by simp [Rep])⟩
  · exact h.elim
def mJoin : RMD := fun d ds cs Q => match d, ds with | .str a, [e] => ∃ ys : List Str, seqOf e cs = some (ys.map D.str) ∧ (ys.map (·.length)).sum + ys.length * a.length ≤ 16777216 ∧ Q (.str (Txt.join a ys)) cs | _, _ => False
theorem methS_join : MethS K T (fun x xs H Q => ∃ a p, ∃ ys : List Str, x = .str a ∧ xs = [.ref p] ∧ (SqL K H p (ys.map V.str) ∨ SqT K H p (ys.map V.str)) ∧
      (ys.map (·.length)).sum + ys.length * a.length ≤ 16777216 ∧ Q (.str (Txt.join a ys)) H) mJoin := by
  intro F m H cs d v ds vs P Q M r rl h k
  unfold mJoin at h
  split at h
  · simp only [Rep] at r
    simp only [RepL] at rl
    obtain ⟨u, w, rfl, re, rfl⟩ := rl
    obtain ⟨ys, q, hz, h⟩ := h
    obtain ⟨a, us, e, s, rx⟩ := seqOf_ok M re q
    have := RepL.vstrs rx
    subst this e
    exact ⟨_, a, ys, r, rfl, s, hz, k F m H cs _ _ h M .refl (by simp [Rep])⟩
  · exact h.elim
end
end Sim


/-! Sim, part H: dicts, comprehensions. -/
namespace Sim
open PySem PySem.Spec PyProof.Rows L2

/-! ### dicts: keys beside values -/
def keyOf : D → Option Key
  | .int i => some (.inl i)
  | .str x => some (.inr x)
  | _ => none
def findK {α : Type} : List Key → List α → Key → Option α
  | k :: ks, x :: xs, j => if k = j then some x else findK ks xs j
  | _, _, _ => none
def putV {α : Type} : List Key → List α → Key → α → List α
  | k :: ks, x :: xs, j, y => (if k = j then y else x) :: putV ks xs j y
  | _, _, _, _ => []
/-- ks, xs with y at j -/
def putKs (ks : List Key) (j : Key) : List Key := if ks.any (fun k => decide (k = j)) = true then ks else ks ++ [j]
def putXs {α : Type} (ks : List Key) (xs : List α) (j : Key) (y : α) : List α := if ks.any (fun k => decide (k = j)) = true then putV ks xs j y else xs ++ [y]
theorem valV_zip : ∀ (ks : List Key) (vs : List V) (j : Key), valV (ks.zip vs) j = findK ks vs j
  | [], _, _ => by simp [valV, findK]
  | k :: ks, [], j => by simp [valV, findK]
  | k :: ks, v :: vs, j => by
    rw [List.zip_cons_cons]
    by_cases h : k = j
    · rw [valV_pos h]; simp [findK, h]
    · rw [valV_neg h, valV_zip ks vs j]; simp [findK, h]
theorem any_zip : ∀ (ks : List Key) (vs : List V) (j : Key), ks.length = vs.length → ((ks.zip vs).any fun kv => decide (kv.1 = j)) = ks.any (fun k => decide (k = j))
  | [], _, _, _ => by simp
  | k :: ks, [], j, h => by simp at h
  | k :: ks, v :: vs, j, h => by
    rw [List.zip_cons_cons, List.any_cons, List.any_cons, any_zip ks vs j (by simpa using h)]
theorem map_zip : ∀ (ks : List Key) (vs : List V) (j : Key) (y : V), ks.length = vs.length → ((ks.zip vs).map fun kv => if kv.1 = j then (kv.1, y) else kv) = ks.zip (putV ks vs j y)
  | [], _, _, _, _ => by simp
  | k :: ks, [], j, y, h => by simp at h
  | k :: ks, v :: vs, j, y, h => by
    rw [List.zip_cons_cons, List.map_cons, map_zip ks vs j y (by simpa using h)]
    by_cases e : k = j <;> simp [putV, e]
theorem putK_zip (ks : List Key) (vs : List V) (j : Key) (y : V) (h : ks.length = vs.length) : putK (ks.zip vs) j y = (putKs ks j).zip (putXs ks vs j y) := by
  unfold putK putKs putXs
  rw [any_zip ks vs j h]
  split
  · exact map_zip ks vs j y h
  · rw [List.zip_append h]
    rfl
theorem putV_len {α : Type} : ∀ (ks : List Key) (xs : List α) (j : Key) (y : α), ks.length = xs.length → (putV ks xs j y).length = ks.length
  | [], _, _, _, _ => by simp [putV]
  | k :: ks, [], j, y, h => by simp at h
  | k :: ks, v :: vs, j, y, h => by
    simp only [putV, List.length_cons]
    rw [putV_len ks vs j y (by simpa using h)]
theorem put_len {α : Type} (ks : List Key) (xs : List α) (j : Key) (y : α) (h : ks.length = xs.length) : (putKs ks j).length = (putXs ks xs j y).length := by
  unfold putKs putXs
  split
  · rw [putV_len ks xs j y h]
  · simp [h]
section
variable {K : PySem.W.Frag} {T : Tabl} {F H : Hp} {m : List Addr}
theorem findK_rep : ∀ {ks : List Key} {ds : List D} {vs : List V} {j : Key} {d : D}, RepL K F m ds vs → findK ks ds j = some d → ∃ v, findK ks vs j = some v ∧ Rep K F m d v
  | k :: ks, d₀ :: ds, vs, j, d, r, h => by
    simp only [RepL] at r
    obtain ⟨v, w, rfl, r1, r2⟩ := r
    simp only [findK] at h ⊢
    by_cases e : k = j
    · rw [if_pos e] at h ⊢
      cases h
      exact ⟨v, rfl, r1⟩
    · rw [if_neg e] at h ⊢
      exact findK_rep r2 h
  | [], _, _, _, _, _, h => by simp [findK] at h
  | _ :: _, [], _, _, _, _, h => by simp [findK] at h
theorem findK_none : ∀ {ks : List Key} {ds : List D} {vs : List V} {j : Key}, RepL K F m ds vs → findK ks ds j = none → findK ks vs j = none
  | k :: ks, d₀ :: ds, vs, j, r, h => by
    simp only [RepL] at r
    obtain ⟨v, w, rfl, r1, r2⟩ := r
    simp only [findK] at h ⊢
    by_cases e : k = j
    · rw [if_pos e] at h
      cases h
    · rw [if_neg e] at h ⊢
      exact findK_none r2 h
  | [], _, _, _, _, h => by simp [findK]
  | _ :: _, [], vs, _, r, h => by simp only [RepL] at r; subst r; simp [findK]
theorem putV_rep : ∀ {ks : List Key} {ds : List D} {vs : List V} {j : Key} {d : D} {v : V}, RepL K F m ds vs → Rep K F m d v → RepL K F m (putV ks ds j d) (putV ks vs j v)
  | k :: ks, d₀ :: ds, vs, j, d, v, r, rd => by
    simp only [RepL] at r
    obtain ⟨u, w, rfl, r1, r2⟩ := r
    simp only [putV]
    refine .cons ?_ (putV_rep r2 rd)
    split
    · exact rd
    · exact r1
  | [], _, _, _, _, _, r, rd => by simp only [putV]; exact .nil
  | _ :: _, [], vs, _, _, _, r, rd => by simp only [RepL] at r; subst r; simp only [putV]; exact .nil
theorem putXs_rep {ks : List Key} {ds : List D} {vs : List V} {j : Key} {d : D} {v : V} (r : RepL K F m ds vs) (rd : Rep K F m d v) : RepL K F m (putXs ks ds j d) (putXs ks vs j v) := by
  unfold putXs
  split
  · exact putV_rep r rd
  · exact r.app (.cons rd .nil)
theorem keyOf_rep {d : D} {v : V} {k : Key} (r : Rep K F m d v) (h : keyOf d = some k) : v = kV k := by
  cases d <;> simp only [keyOf, reduceCtorEq, Option.some.injEq] at h
  · simp only [Rep] at r; subst h r; rfl
  · simp only [Rep] at r; subst h r; rfl
/-- the dict d, for reading -/
def dicOf (d : D) (cs : CsL) : Option (List Key × List D) := match d with
  | .dct ks ds => some (ks, ds)
  | .loc n => match cs[n]? with
    | some (.dic ks ds) => some (ks, ds)
    | _ => none
  | _ => none
theorem dicOf_ok {cs : CsL} {d : D} {v : V} {ks : List Key} {ds : List D} (M : Mem K T F m H cs) (r : Rep K F m d v) (h : dicOf d cs = some (ks, ds)) : ∃ a vs, v = .ref a ∧ Rd H a (.dK (ks.zip vs)) ∧ ks.length = vs.length ∧ RepL K F m ds vs := by
  cases d with
  | dct ks' ds' =>
    cases h
    simp only [Rep] at r
    obtain ⟨a, vs, e, s, l, rl⟩ := r
    exact ⟨a, vs, e, M.sub.rd s, l, rl⟩
  | loc n =>
    simp only [dicOf] at h
    simp only [Rep] at r
    obtain ⟨a, e, q⟩ := r
    cases hc : cs[n]? with
    | none => rw [hc] at h; cases h
    | some c =>
      rw [hc] at h
      cases c with
      | dic ks' ds' =>
        cases h
        obtain ⟨_, vs, h1, h2, h3⟩ := M.cell n a _ q hc
        exact ⟨a, vs, e, .inl h1, h2, h3⟩
      | _ => cases h
  | _ => cases h
end
section
variable {B : Bx} {o i e value : Expr} {es : List Expr} {td ty tv te : TED} {tr : TAD} {pos : Pos}
def dDGet (td ty : TED) : TED := fun Ex sl cs Q => td Ex sl cs fun d cs1 => ty Ex sl cs1 fun y cs2 => ∃ k ks ds x, keyOf y = some k ∧ dicOf d cs2 = some (ks, ds) ∧ findK ks ds k = some x ∧ Q x cs2
theorem simE_dget (hu : B.X.A.units + 1 < cLine) (ho : SimE B o td) (hi : SimE B i ty) (hs : NoSl i := by exact fun _ _ => rfl) : SimE B (.Subscript o i pos) (dDGet td ty) :=
  PE.to (pe_dget hu ho hi hs) fun σ H Q ⟨F, m, cs, sl, Ex, P, A, X, h, k⟩ => ⟨F, m, cs, sl, Ex, _, A, X, h, fun F1 m1 H1 cs1 d v p1 M1 g1 r1 => ⟨F1, m1, cs1, sl, Ex, _, A.step M1 g1, X, p1, fun F2 m2 H2 cs2 y u ⟨kk, ks, ds, x, hk, hd, hx, p2⟩ M2 g2 r2 => by
    obtain ⟨a, vs, e, s, l, rl⟩ := dicOf_ok M2 (g2.rep r1) hd
    obtain ⟨w, hw, rw'⟩ := findK_rep rl hx
    exact ⟨a, w, e, .inl ⟨ks.zip vs, kk, s, keyOf_rep r2 hk, by rw [valV_zip, hw]⟩, k F2 m2 H2 cs2 x w p2 M2 (g1.trans g2) rw'⟩⟩⟩
/-- k in d -/
def dDIn (neg : Bool) (ty td : TED) : TED := fun Ex sl cs Q => ty Ex sl cs fun y cs1 => td Ex sl cs1 fun d cs2 => ∃ k ks ds, keyOf y = some k ∧ dicOf d cs2 = some (ks, ds) ∧ Q (.bl ((findK ks ds k).isSome != neg)) cs2
theorem din_to (neg : Bool) : ∀ σ H Q, liftE B (dDIn neg ty td) σ H Q → (fun (σ : L2.St) (H : Hp) (Q : VK) => liftE B ty σ H fun y H1 => liftE B td σ H1 fun x H2 => ∃ a o, x = .ref a ∧ DGet H2 a y o ∧ Q (.bl (o.isSome != neg)) H2) σ H Q := fun σ H Q ⟨F, m, cs, sl, Ex, P, A, X, h, k⟩ =>
  ⟨F, m, cs, sl, Ex, _, A, X, h, fun F1 m1 H1 cs1 y u p1 M1 g1 r1 => ⟨F1, m1, cs1, sl, Ex, _, A.step M1 g1, X, p1, fun F2 m2 H2 cs2 d v ⟨kk, ks, ds, hk, hd, p2⟩ M2 g2 r2 => by
    obtain ⟨a, vs, e, s, l, rl⟩ := dicOf_ok M2 r2 hd
    refine ⟨a, findK ks vs kk, e, .inl ⟨ks.zip vs, kk, s, keyOf_rep (g2.rep r1) hk, by rw [valV_zip]⟩, ?_⟩
    have : (findK ks vs kk).isSome = (findK ks ds kk).isSome := by
      cases q : findK ks ds kk with
      | none => rw [findK_none rl q]; rfl
      | some x => obtain ⟨w, hw, _⟩ := findK_rep rl q; rw [hw]; rfl
    rw [this]
    exact k F2 m2 H2 cs2 _ _ p2 M2 (g1.trans g2) (by simp [Rep])⟩⟩
theorem simE_din (hu : B.X.A.units + 1 < cLine) (hi : SimE B i ty) (ho : SimE B o td) (h1 : behindInMarks .In o = false := by rfl) : SimE B (.Compare i [.In] [o] pos) (dDIn false ty td) :=
  PE.to (pe_cmp (pc_din hu hi ho) h1) fun σ H Q h => by unfold tDIn; simpa only [Bool.bne_false] using din_to false σ H Q h
theorem simE_dnotin (hu : B.X.A.units + 1 < cLine) (hi : SimE B i ty) (ho : SimE B o td) (h1 : behindInMarks .NotIn o = false := by rfl) : SimE B (.Compare i [.NotIn] [o] pos) (dDIn true ty td) :=
  PE.to (pe_cmp (pc_dnotin hu hi ho) h1) fun σ H Q h => by unfold tDNotIn; simpa only [Bool.bne_true] using din_to true σ H Q h
/-- d[k] = v -/
def sDPut (td ty tv : TED) : TSD := fun Ex sl cs P => tv Ex sl cs fun x cs1 => td Ex sl cs1 fun d cs2 => ty Ex sl cs2 fun y cs3 => ∃ k n ks ds, keyOf y = some k ∧ d = .loc n ∧ cs3[n]? = some (.dic ks ds) ∧ ks.length < sizeLine ∧ P.nx sl (cs3.set n (.dic (putKs ks k) (putXs ks ds k x)))
theorem simS_dput {pos' : Pos} (hu : B.X.A.units + 1 < cLine) (ho : SimE B o td) (hi : SimE B i ty) (hv : SimE B value tv) (hs : swapsWith value (some (.Subscript o i pos')) pos.line B.X.env = pure false := by rfl) :
    SimS B (.Assign [.Subscript o i pos'] value pos) (sDPut td ty tv) := PS.to (ps_dput hu ho hi hv hs) fun Dn σ H ⟨F, m, cs, sl, Ex, P, A, X, h, k⟩ =>
  ⟨F, m, cs, sl, Ex, _, A, X, h, fun F1 m1 H1 cs1 x v p1 M1 g1 r1 => ⟨F1, m1, cs1, sl, Ex, _, A.step M1 g1, X, p1, fun F2 m2 H2 cs2 d u p2 M2 g2 r2 => ⟨F2, m2, cs2, sl, Ex, _, A.step M2 (g1.trans g2), X, p2, fun F3 m3 H3 cs3 y w ⟨kk, n, ks, ds, hk, hd, hc, hl, p3⟩ M3 g3 r3 => by
    subst hd
    have r2' := g3.rep r2
    simp only [Rep] at r2'
    obtain ⟨a, e, q⟩ := r2'
    obtain ⟨hF, vs, h1, h2, h3⟩ := M3.cell n a _ q hc
    have rx := (g2.trans g3).rep r1
    refine ⟨a, upd H3 a (.dK ((putKs ks kk).zip (putXs ks vs kk v))), e, .inl ⟨ks.zip vs, kk, h1, keyOf_rep r3 hk, by rw [List.length_zip]; omega, by rw [putK_zip ks vs kk v h2]⟩, ?_⟩
    have M4 := M3.write (o := .dK ((putKs ks kk).zip (putXs ks vs kk v))) (c := .dic (putKs ks kk) (putXs ks ds kk x)) q True.intro hF ⟨hF, _, upd_same, put_len ks vs kk v h2, putXs_rep h3 rx⟩
    have g4 := Grow.write (o := .dK ((putKs ks kk).zip (putXs ks vs kk v))) M3 q
    exact k.nx _ _ _ _ sl σ p3 (A.step M4 (((g1.trans g2).trans g3).trans g4)) (((g1.trans g2).trans g3).trans g4)⟩⟩⟩
/-- {} -/
def dDNew : TED := fun _ _ cs Q => Q (.loc cs.length) (cs ++ [.dic [] []])
theorem simE_dnew : SimE B (.Dict [] [] pos) dDNew := PE.to pe_dnewK fun σ H Q ⟨F, m, cs, sl, Ex, P, A, X, h, k⟩ => Cont.dict (ks := []) (vs := []) (ds := []) k A.mem rfl .nil h
/-! displays of dicts: the pairs are told from the left -/
def pairsD : List (TED × TED) → TAD
  | [] => fun _ _ cs Q => Q [] cs
  | (tk, tv) :: r => fun Ex sl cs Q => tk Ex sl cs fun y cs1 => tv Ex sl cs1 fun x cs2 => pairsD r Ex sl cs2 fun ps cs3 => Q (y :: x :: ps) cs3
def mergeD : List Key → List D → List D → Option (List Key × List D)
  | ks, ds, [] => some (ks, ds)
  | ks, ds, y :: x :: r => match keyOf y with
    | some k => mergeD (putKs ks k) (putXs ks ds k x) r
    | none => none
  | _, _, _ => none
/-- {k: v, ..}; nothing of the pairs may change the empty dict -/
def dDisp (trs : List (TED × TED)) : TED := fun Ex sl cs Q => pairsD trs Ex sl (cs ++ [.dic [] []]) fun ps cs1 => cs1[cs.length]? = some (.dic [] []) ∧ ps.length ≤ 30 ∧ ∃ ks ds, mergeD [] [] ps = some (ks, ds) ∧ Q (.loc cs.length) (cs1.set cs.length (.dic ks ds))
theorem pairs_to : ∀ (trs : List (TED × TED)) {F : Hp} {m : List Addr} {H : Hp} {cs : CsL} {sl : Sl} {σ : L2.St} {Ex : ExW} {P : List D → CsL → Prop} {Q : List (V × V) → Hp → Prop}, At B.X.K B.T B.w σ sl H cs F m → ExOk B.X.K B.T B.w B.E Ex → pairsD trs Ex sl cs P →
    (∀ (F' : Hp) (m' : List Addr) (H' : Hp) (cs' : CsL) (ds : List D) (ps : List (V × V)), P ds cs' → Mem B.X.K B.T F' m' H' cs' → Grow F m H F' m' H' → RepL B.X.K F' m' ds (ps.flatMap fun p => [p.1, p.2]) → Q ps H') →
    tPairs (trs.map fun p => (liftE B p.1, liftE B p.2)) σ H Q
  | [], F, m, H, cs, sl, σ, Ex, P, Q, A, X, h, k => k F m H cs [] [] h A.mem .refl .nil
  | (tk, tv) :: r, F, m, H, cs, sl, σ, Ex, P, Q, A, X, h, k =>
    ⟨F, m, cs, sl, Ex, _, A, X, h, fun F1 m1 H1 cs1 y u p1 M1 g1 r1 => ⟨F1, m1, cs1, sl, Ex, _, A.step M1 g1, X, p1, fun F2 m2 H2 cs2 x v p2 M2 g2 r2 =>
      pairs_to r (A.step M2 (g1.trans g2)) X p2 fun F3 m3 H3 cs3 ds ps p3 M3 g3 r3 => k F3 m3 H3 cs3 (y :: x :: ds) ((u, v) :: ps) p3 M3 ((g1.trans g2).trans g3) (.cons ((g2.trans g3).rep r1) (.cons (g3.rep r2) r3))⟩⟩
theorem mergeD_ok {K : PySem.W.Frag} {F : Hp} {m : List Addr} : ∀ (n : Nat) {ps : List D} {us : List (V × V)} {ks ks' : List Key} {ds ds' : List D} {vs : List V}, us.length = n → RepL K F m ps (us.flatMap fun p => [p.1, p.2]) → ks.length = vs.length → RepL K F m ds vs → mergeD ks ds ps = some (ks', ds') →
    ∃ kvs : List (Key × V), us = kvs.map (fun kv => (kV kv.1, kv.2)) ∧ ∃ vs', mergeK (ks.zip vs) kvs = ks'.zip vs' ∧ ks'.length = vs'.length ∧ RepL K F m ds' vs'
  | 0, ps, us, ks, ks', ds, ds', vs, hn, r, hl, rd, h => by
    have : us = [] := List.eq_nil_of_length_eq_zero hn
    subst this
    have : ps = [] := by
      cases ps with
      | nil => rfl
      | cons p ps => simp [RepL] at r
    subst this
    simp only [mergeD] at h
    cases h
    exact ⟨[], rfl, vs, rfl, hl, rd⟩
  | n + 1, ps, us, ks, ks', ds, ds', vs, hn, r, hl, rd, h => by
    cases us with
    | nil => simp at hn
    | cons p us =>
      obtain ⟨u, v⟩ := p
      cases ps with
      | nil => simp [RepL] at r
      | cons y ps =>
        cases ps with
        | nil => simp [RepL] at r
        | cons x ps =>
          simp only [List.flatMap_cons, List.cons_append, List.nil_append] at r
          obtain ⟨r1, r⟩ := RepL.of_cons r
          obtain ⟨r2, r3⟩ := RepL.of_cons r
          simp only [mergeD] at h
          cases hk : keyOf y with
          | none => rw [hk] at h; cases h
          | some k =>
            rw [hk] at h
            obtain ⟨kvs, e, vs', h1, h2, h3⟩ := mergeD_ok n (by simpa using hn) r3 (put_len ks vs k v hl) (putXs_rep rd r2) h
            refine ⟨(k, v) :: kvs, ?_, vs', ?_, h2, h3⟩
            · rw [List.map_cons, ← e, keyOf_rep r1 hk]
            · unfold mergeK at h1 ⊢
              rw [List.foldl_cons, putK_zip ks vs k v hl]
              exact h1
theorem simE_disp {keys : List (Option Expr)} {values : List Expr} {trs : List (TED × TED)} (h : PPs B.X pos keys values (trs.map fun p => (liftE B p.1, liftE B p.2))) (hall : keys.all (·.isSome) = true := by rfl) (hl : keys.length = values.length := by rfl) (h0 : keys ≠ [] := by exact fun z => by cases z)
    (h15 : keys.length ≤ 15 := by decide) : SimE B (.Dict keys values pos) (dDisp trs) := PE.to (pe_disp h hall hl h0 h15) fun σ H Q ⟨F, m, cs, sl, Ex, P, A, X, h, k⟩ => fun p hp => by
  have M1 := A.mem.alloc (o := .dK []) (c := .dic [] []) hp True.intro ⟨A.mem.noF hp, [], upd_same, rfl, .nil⟩
  have g1 : Grow F m H F (m ++ [p]) (upd H p (.dK [])) := .alloc hp
  have hm : (m ++ [p])[cs.length]? = some p := by
    rw [← A.mem.len, List.getElem?_append_right (Nat.le_refl _)]
    simp
  refine pairs_to trs (A.step M1 g1) X h fun F2 m2 H2 cs2 ds ps ⟨hc, hln, ks, ds', hmg, p2⟩ M2 g2 r => ?_
  have q := g2.pre _ _ hm
  obtain ⟨hF, vs, h1, h2, h3⟩ := M2.cell _ _ _ q hc
  have hv : vs = [] := by cases vs with | nil => rfl | cons a b => simp at h2
  subst hv
  obtain ⟨kvs, e, vs', h4, h5, h6⟩ := mergeD_ok ps.length rfl r (ks := []) (vs := []) (ds := []) rfl .nil hmg
  refine ⟨h1, kvs, e, ?_, ?_⟩
  · have := r.length
    have e2 := congrArg List.length e
    rw [List.length_map] at e2
    rw [← e2]
    have e3 : ∀ l : List (V × V), (l.flatMap fun p => [p.1, p.2]).length = 2 * l.length := fun l => by
      induction l with
      | nil => rfl
      | cons a l ih => rw [List.flatMap_cons, List.length_append, ih]; simp; omega
    have e4 := e3 ps
    omega
  · have h4' : mergeK [] kvs = ks.zip vs' := h4
    rw [h4']
    have M3 := M2.write (o := .dK (ks.zip vs')) (c := .dic ks ds') q True.intro hF ⟨hF, vs', upd_same, h5, h6⟩
    have g3 := Grow.write (o := .dK (ks.zip vs')) M2 q
    exact k _ _ _ _ (.loc cs.length) (.ref p) p2 M3 ((g1.trans g2).trans g3) (by simp only [Rep]; exact ⟨p, rfl, q⟩)
theorem simP_nil : PPs B.X pos [] [] (([] : List (TED × TED)).map fun p => (liftE B p.1, liftE B p.2)) := pps_nil
theorem simP_cons {k v : Expr} {ks : List (Option Expr)} {vs : List Expr} {tk tv : TED} {trs : List (TED × TED)} (hk : SimE B k tk) (hv : SimE B v tv) (hr : PPs B.X pos ks vs (trs.map fun p => (liftE B p.1, liftE B p.2))) :
    PPs B.X pos (some k :: ks) (v :: vs) (((tk, tv) :: trs).map fun p => (liftE B p.1, liftE B p.2)) := pps_cons hk hv hr
end

/-! ### comprehensions -/
def wipeA {α : Type} (xs : List (Option α)) : List Nat → List (Option α)
  | [] => xs
  | v :: vs => (wipeA xs vs).set v none
theorem wipeA_eq (σ : L2.St) : ∀ vs : List Nat, wipe σ vs = wipeA σ vs
  | [] => rfl
  | v :: vs => by unfold wipe wipeA; rw [wipeA_eq σ vs]
theorem wipeA_len {α : Type} (xs : List (Option α)) : ∀ vs : List Nat, (wipeA xs vs).length = xs.length
  | [] => rfl
  | v :: vs => by unfold wipeA; rw [List.length_set, wipeA_len xs vs]
theorem wipeA_get {α : Type} (xs : List (Option α)) (j : Nat) : ∀ vs : List Nat, (wipeA xs vs)[j]? = if j ∈ vs then (if j < xs.length then some none else none) else xs[j]?
  | [] => by simp [wipeA]
  | v :: vs => by
    unfold wipeA
    by_cases h : v = j
    · subst h
      by_cases hl : v < xs.length
      · rw [List.getElem?_set_self (by rw [wipeA_len]; exact hl)]
        simp [hl]
      · rw [List.getElem?_eq_none (by rw [List.length_set, wipeA_len]; omega)]
        simp [hl]
    · rw [List.getElem?_set_ne h, wipeA_get xs j vs]
      simp [Ne.symm h]
theorem wipeA_set {α : Type} (xs : List (Option α)) (i : Nat) (x : Option α) (vs : List Nat) (h : i ∈ vs) : wipeA (xs.set i x) vs = wipeA xs vs := by
  apply List.ext_getElem?
  intro j
  rw [wipeA_get, wipeA_get, List.length_set]
  by_cases hj : j ∈ vs
  · rw [if_pos hj, if_pos hj]
  · rw [if_neg hj, if_neg hj, List.getElem?_set_ne (fun z : i = j => hj (z ▸ h))]
theorem slR_wipe {K : PySem.W.Frag} {F : Hp} {m : List Addr} {sl : Sl} {σ : L2.St} (h : SlR K F m sl σ) (vs : List Nat) : SlR K F m (wipeA sl vs) (wipe σ vs) where
  len := by rw [wipeA_eq, wipeA_len, wipeA_len, h.len]
  get := fun i d e => by
    rw [wipeA_get] at e
    rw [wipeA_eq, wipeA_get]
    by_cases hi : i ∈ vs
    · rw [if_pos hi] at e
      split at e <;> cases e
    · rw [if_neg hi] at e ⊢
      exact h.get i d e
/-- a comprehension's target: a name, or several -/
inductive Tgt where | nm (i : Nat) | tp (is : List Nat)
def tgsV : List Nat → TGs
  | [] => gNil
  | i :: is => gCons (gName i) (tgsV is)
def tgV (K : PySem.W.Frag) : Tgt → TG
  | .nm i => gName i
  | .tp is => gTup K is.length (tgsV is)
def Tgt.slots : Tgt → List Nat
  | .nm i => [i]
  | .tp is => is
def setAll : List Nat → List D → Sl → Sl
  | i :: is, d :: ds, sl => setAll is ds (sl.set i (some d))
  | _, _, sl => sl
def tgD (t : Tgt) (d : D) (sl : Sl) (k : Sl → Prop) : Prop := match t with
  | .nm i => k (sl.set i (some d))
  | .tp is => match d with
    | .tup ds => ds.length = is.length ∧ k (setAll is ds sl)
    | _ => False
theorem tgsV_ok {K : PySem.W.Frag} {F : Hp} {m : List Addr} {vs0 : List Nat} : ∀ (is : List Nat) {ds : List D} {vs : List V} {sl : Sl} {σ : L2.St} {H : Hp} {Q : L2.St → Hp → Prop}, (∀ i ∈ is, i ∈ vs0) → ds.length = is.length → RepL K F m ds vs → SlR K F m sl σ →
    (∀ σ', SlR K F m (setAll is ds sl) σ' → wipe σ' vs0 = wipe σ vs0 → Q σ' H) → tgsV is vs σ H Q
  | [], [], vs, sl, σ, H, Q, hi, hl, r, s, k => by
    simp only [RepL] at r
    exact ⟨r, k σ s rfl⟩
  | i :: is, d :: ds, vs, sl, σ, H, Q, hi, hl, r, s, k => by
    simp only [RepL] at r
    obtain ⟨v, w, e, r1, r2⟩ := r
    refine ⟨v, w, e, tgsV_ok is (fun j q => hi j (List.mem_cons_of_mem _ q)) (by simpa using hl) r2 (s.set r1) fun σ' s' e' => k σ' s' ?_⟩
    rw [e', wipeA_eq, wipeA_eq, wipeA_set _ _ _ _ (hi i (List.mem_cons_self ..))]
  | [], _ :: _, _, _, _, _, _, _, hl, _, _, _ => by simp at hl
  | _ :: _, [], _, _, _, _, _, _, hl, _, _, _ => by simp at hl
theorem tgV_ok {K : PySem.W.Frag} {T : Tabl} {F : Hp} {m : List Addr} {vs0 : List Nat} {t : Tgt} {d : D} {v : V} {sl : Sl} {σ : L2.St} {H : Hp} {cs : CsL} {Q : L2.St → Hp → Prop} {k : Sl → Prop} (M : Mem K T F m H cs) (hi : ∀ i ∈ t.slots, i ∈ vs0) (r : Rep K F m d v) (s : SlR K F m sl σ) (h : tgD t d sl k)
    (q : ∀ sl' σ', k sl' → SlR K F m sl' σ' → wipe σ' vs0 = wipe σ vs0 → Q σ' H) : tgV K t v σ H Q := by
  cases t with
  | nm i => exact q _ _ h (s.set r) (by rw [wipeA_eq, wipeA_eq, wipeA_set _ _ _ _ (hi i (by simp [Tgt.slots]))])
  | tp is =>
    cases d with
    | tup ds =>
      obtain ⟨hl, h⟩ := h
      simp only [Rep] at r
      obtain ⟨a, vs, e, s2, rl⟩ := r
      exact ⟨a, vs, e, M.sub.sqt s2, by rw [← rl.length, hl], tgsV_ok is hi hl rl s fun σ' s' e' => q _ _ h s' e'⟩
    | _ => exact h.elim
/-- the turns of a comprehension whose list stands in cell n -/
def lcD (ck : CsL → Prop) (t : Tgt) (tt : TTD) (te : TED) (vs : List Nat) (n : Nat) : List D → Sl → CsL → (CsL → Prop) → Prop
  | [], _, cs, Q => ck cs ∧ Q cs
  | x :: xs, sl, cs, Q => ck cs ∧ tgD t x (wipeA sl vs) fun sl2 => tt (fun _ _ _ => False) sl2 cs fun b cs3 =>
      if b = true then te (fun _ _ _ => False) sl2 cs3 fun y cs4 => ∃ acc, cs4[n]? = some (.lst acc) ∧ acc.length < sizeLine ∧ lcD ck t tt te vs n xs sl (cs4.set n (.lst (acc ++ [y]))) Q
      else lcD ck t tt te vs n xs sl cs3 Q
@[irreducible] def lcR (ck : CsL → Prop) (t : Tgt) (tt : TTD) (te : TED) (vs : List Nat) (n : Nat) (ds : List D) (sl : Sl) (cs : CsL) (Q : CsL → Prop) : Prop := lcD ck t tt te vs n ds sl cs Q
def dLc (w : TWD) (t : Tgt) (tt : TTD) (te : TED) (vs : List Nat) : TED := fun Ex sl cs Q => w Ex sl cs fun ds ck cs1 => lcR ck t tt te vs cs1.length ds sl (cs1 ++ [.lst []]) fun cs2 => Q (.loc cs1.length) cs2
abbrev blkB (B : Bx) (s : Shared) (H : Hp) (scope : Scope) (cl : List (Str × Addr)) (C : Addr) (fp : List Addr) : Bx := ⟨B.X.blk s H scope (compEnvC scope cl C B.X.env) fp, B.T, B.w, E0⟩
theorem good_blk {G : Gx} {k : Nat} {B : Bx} (g : Good G k B) {s : Shared} {H : Hp} {scope : Scope} {cl : List (Str × Addr)} {C : Addr} {fp : List Addr} : Good G k (blkB B s H scope cl C fp) :=
  ⟨⟨g.ing.P, g.ing.w, g.ing.K, g.ing.mg, g.ing.base, g.ing.T⟩, g.calm, g.nd, g.room, passL⟩
def tYesD : TTD := fun _ _ cs Q => Q true cs
def SimTs (B : Bx) (ifs : List Expr) (t : TTD) : Prop := PTs B.X ifs (liftT B t)
theorem PTs.to {X : Cx} {ifs : List Expr} {t u : TT} (h : PTs X ifs t) (hu : ∀ σ H Q, u σ H Q → t σ H Q) : PTs X ifs u := ⟨fun pins s σ H Q I q => h.run pins s σ H Q I (hu _ _ _ q)⟩
theorem simTs_nil {B : Bx} : SimTs B [] tYesD := PTs.to pts_nil fun σ H Q ⟨F, m, cs, sl, Ex, P, A, X, h, k⟩ => k F m H cs true h A.mem .refl
theorem simTs_one {B : Bx} {c : Expr} {t : TTD} (h : SimT B c t) : SimTs B [c] t := pts_one h
theorem forD_lck {ck : CsL → Prop} {t : Tgt} {tt : TTD} {te : TED} {vs : List Nat} {n : Nat} : ∀ {ds : List D} {sl : Sl} {cs : CsL} {Q : CsL → Prop}, lcD ck t tt te vs n ds sl cs Q → ck cs
  | [], _, _, _, h => h.1
  | _ :: _, _, _, _, h => h.1
theorem lc_to {B : Bx} {w : TWD} {t : Tgt} {tt : TTD} {te : TED} {vs : List Nat} (hi : ∀ i ∈ t.slots, i ∈ vs) : ∀ σ H Q, liftE B (dLc w t tt te vs) σ H Q → tLc (liftI B w) (tgV B.X.K t) (liftT ⟨B.X, B.T, B.w, E0⟩ tt) (liftE ⟨B.X, B.T, B.w, E0⟩ te) vs σ H Q := fun σ H Q ⟨F, m, cs, sl, Ex, P, A, X, h, k⟩ => by
  refine ⟨F, m, cs, sl, Ex, _, A, X, h, fun F1 m1 H1 cs1 ds ck J p M1 g1 hJ => fun D hD => ?_⟩
  unfold lcR at p
  have M2 := M1.alloc (o := .lst []) (c := .lst []) hD True.intro ⟨M1.noF hD, [], upd_same, .nil⟩
  have g2 : Grow F1 m1 H1 F1 (m1 ++ [D]) (upd H1 D (.lst [])) := .alloc hD
  have hm : (m1 ++ [D])[cs1.length]? = some D := by
    rw [← M1.len, List.getElem?_append_right (Nat.le_refl _)]
    simp
  have X0 : ExOk B.X.K B.T B.w E0 (fun _ _ _ => False) := fun _ _ _ _ _ _ _ _ z => z.elim
  refine ⟨fun i n H' => n = ds.length - i ∧ i ≤ ds.length ∧ ∃ F' m' cs', Mem B.X.K B.T F' m' H' cs' ∧ Grow F1 (m1 ++ [D]) (upd H1 D (.lst [])) F' m' H' ∧ lcD ck t tt te vs cs1.length (ds.drop i) sl cs' (fun cs2 => P (.loc cs1.length) cs2), ⟨ds.length, by simp, Nat.zero_le _, _, _, _, M2, .refl, by simpa using p⟩, ?_⟩
  rintro i n H' ⟨rfl, hle, F', m', cs', M', g', h'⟩
  have hck := forD_lck h'
  obtain ⟨hstop, hgo⟩ := hJ i F' m' H' cs' M' (g2.trans g') hck
  have hmD := g'.pre _ _ hm
  by_cases hlt : i < ds.length
  · refine .inr ?_
    have e : ds[i]? = some (ds[i]) := List.getElem?_eq_getElem hlt
    obtain ⟨go, yl⟩ := hgo _ e
    rw [List.drop_eq_getElem_cons hlt] at h'
    refine ⟨go, fun H3 => ∃ F3 m3 cs3, Mem B.X.K B.T F3 m3 H3 cs3 ∧ Grow F1 (m1 ++ [D]) (upd H1 D (.lst [])) F3 m3 H3 ∧ lcD ck t tt te vs cs1.length (ds.drop (i + 1)) sl cs3 (fun cs2 => P (.loc cs1.length) cs2), fun H3 q => ⟨ds.length - (i + 1), by omega, rfl, hlt, q⟩, fun x H'' y => ?_⟩
    obtain ⟨e1, r⟩ := yl x H'' y
    subst e1
    have gA := (g1.trans g2).trans g'
    have sA := (A.slr.mono gA.fro gA.pre)
    refine tgV_ok M' hi r (slR_wipe sA vs) h'.2 fun sl' σ' p2 s2 e2 => ⟨?_, ?_⟩
    · rw [e2]
      simp only [wipeA_eq]
      apply List.ext_getElem?
      intro j
      rw [wipeA_get, wipeA_get, wipeA_len]
      by_cases hj : j ∈ vs
      · rw [if_pos hj, if_pos hj]
      · rw [if_neg hj, if_neg hj]
    · have A' : At B.X.K B.T B.w σ' sl' H'' cs' F' m' := ⟨M', A.gr.trans gA, s2⟩
      refine ⟨F', m', cs', sl', _, _, A', X0, p2, fun F3 m3 H3 cs3 b p3 M3 g3 => ?_⟩
      cases b with
      | true =>
        rw [if_pos rfl] at p3 ⊢
        refine ⟨F3, m3, cs3, sl', _, _, A'.step M3 g3, X0, p3, fun F4 m4 H4 cs4 d4 v4 ⟨acc, hc, hl, p4⟩ M4 g4 r4 => ?_⟩
        have q4 := (g3.trans g4).pre _ _ hmD
        obtain ⟨hF, vv, h1, h2⟩ := M4.cell _ _ _ q4 hc
        refine ⟨vv, h1, by rw [← h2.length]; exact hl, F4, m4, _, M4.write (o := .lst (vv ++ [v4])) (c := .lst (acc ++ [d4])) q4 True.intro hF ⟨hF, _, upd_same, h2.app (.cons r4 .nil)⟩, (g'.trans (g3.trans g4)).trans (.write M4 q4), p4⟩
      | false =>
        rw [if_neg Bool.false_ne_true] at p3 ⊢
        exact ⟨F3, m3, cs3, M3, g'.trans g3, p3⟩
  · have e : i = ds.length := by omega
    subst e
    rw [List.drop_length] at h'
    exact .inl ⟨hstop (Nat.le_refl _), k F' m' H' cs' _ _ h'.2 M' ((g1.trans g2).trans g') (by simp only [Rep]; exact ⟨D, rfl, hmD⟩)⟩
section
variable {B : Bx} {elt tg iter : Expr} {ifs : List Expr} {scope : Scope} {own : List (Str × Nat)} {pos : Pos} {w : TWD} {t : Tgt} {tt : TTD} {te : TED}
theorem simE_lc (own : List (Str × Nat)) (t : Tgt) (hc : B.X.calm = true) (hN : B.X.N.Nodup) (hi : SimI B tg iter w) (ok : BlkOk B.X.N B.X.env.scope scope own) (hsl : ∀ i ∈ t.slots, i ∈ own.map (·.2))
    (hg : ∀ (s : Shared) (H : Hp) (C : Addr) (cl : List (Str × Addr)) (fp : List Addr), PG (B.X.blk s H scope (compEnvC scope cl C B.X.env) fp) tg (tgV B.X.K t))
    (ht : ∀ (s : Shared) (H : Hp) (C : Addr) (cl : List (Str × Addr)) (fp : List Addr), SimTs (blkB B s H scope cl C fp) ifs tt)
    (he : ∀ (s : Shared) (H : Hp) (C : Addr) (cl : List (Str × Addr)) (fp : List Addr), SimE (blkB B s H scope cl C fp) elt te) (hs : ∀ x, foldedSetIterable iter B.X.env x = pure x := by intro _; rfl) :
    SimE B (.ListComp elt [⟨tg, iter, ifs, 0⟩] scope pos) (dLc w t tt te (own.map (·.2))) :=
  PE.to (pe_lc (tt := liftT ⟨B.X, B.T, B.w, E0⟩ tt) (te := liftE ⟨B.X, B.T, B.w, E0⟩ te) hc hN hi ok hg ht he hs) (lc_to hsl)
theorem simS_setLc {i : Nat} {y : Str} {py : Pos} {spos : Pos} (own : List (Str × Nat)) (t : Tgt) (hc : B.X.calm = true) (hN : B.X.N.Nodup) (hi : SimI B tg iter w) (ok : BlkOk B.X.N B.X.env.scope scope own) (hsl : ∀ i ∈ t.slots, i ∈ own.map (·.2))
    (hg : ∀ (s : Shared) (H : Hp) (C : Addr) (cl : List (Str × Addr)) (fp : List Addr), PG (B.X.blk s H scope (compEnvC scope cl C B.X.env) fp) tg (tgV B.X.K t))
    (ht : ∀ (s : Shared) (H : Hp) (C : Addr) (cl : List (Str × Addr)) (fp : List Addr), SimTs (blkB B s H scope cl C fp) ifs tt)
    (he : ∀ (s : Shared) (H : Hp) (C : Addr) (cl : List (Str × Addr)) (fp : List Addr), SimE (blkB B s H scope cl C fp) elt te)
    (hsw : swapsWith (.ListComp elt [⟨tg, iter, ifs, 0⟩] scope pos) (some (.Name y py)) spos.line B.X.env = pure true) (hy : B.X.N[i]? = some y := by rfl) (hyl : B.X.env.scope.names.lookup y = some .local := by rfl) (hs : ∀ x, foldedSetIterable iter B.X.env x = pure x := by intro _; rfl) :
    SimS B (.Assign [.Name y py] (.ListComp elt [⟨tg, iter, ifs, 0⟩] scope pos) spos) (sSet i (dLc w t tt te (own.map (·.2)))) :=
  PS.to (ps_setLc (tt := liftT ⟨B.X, B.T, B.w, E0⟩ tt) (te := liftE ⟨B.X, B.T, B.w, E0⟩ te) hc hN hy hyl hsw hi ok hg ht he hs) fun Dn σ H ⟨F, m, cs, sl, Ex, P, A, X, h, k⟩ => lc_to hsl σ H _
    ⟨F, m, cs, sl, Ex, _, A, X, h, fun F' m' H' cs' d v p M g r => k.nx F' m' H' cs' _ _ p ((A.step M g).set r) g⟩
end
end Sim


/-! Sim, part X: the errors: class Y(Exception) with __init__(self, thing): super().__init__(thing); self.thing = thing; and classes C(Y): pass. -/
namespace PySem
namespace YrX
open Builtin Builtin.ObjectAttr
/-- what stands behind the class in its mro -/
def TailOk (bm : List Value) : Prop := bm = ESX.exTail ∨ ∃ Y, bm = .ref Y :: ESX.exTail
theorem TailOk.contains {bm : List Value} (h : TailOk bm) (X : String) : bm.contains (.type X) = ESX.exTail.contains (.type X) := by
  rcases h with rfl | ⟨Y, rfl⟩
  · rfl
  · rw [List.contains_cons]; rfl
theorem TailOk.pass {bm : List Value} (h : TailOk bm) (self : Value) (C : Addr) : refuseLoop self "__setattr__" (.ref C :: bm) = pure () := by
  rw [refuseLoop_ref]
  rcases h with rfl | ⟨Y, rfl⟩
  · exact F.store_Exception.passes _
  · rw [refuseLoop_ref]; exact F.store_Exception.passes _
section
variable {prog : Program} {w : World} {A : Around} {E : Value → Shared → Prop} {R : Result → Shared → Prop} {hp : Heap} {g : Array GenState} {d : Drawn} {t : Nat} {os : OsState}
theorem exc_osa {K : W.Frag} {name : Str} {tk : Tok} {v : Value} {x C : Addr} {fv : Array Value} {cd : ClassData} {bm : List Value}
    (X : K.In hp) (hx : hp.get? x = some { cls := .ref C, data := .fields fv }) (hcd : W.clsIn K C = some cd) (hm : cd.mro = .ref C :: bm) (ht : TailOk bm) (hh : cd.hasDict = true) (ha : W.findIn K (.ref C) name = some none)
    (hq : ∀ h' tk' dx, (∀ b o, b ≠ x → hp.get? b = some o → h'.get? b = some o) → hp.objs.size ≤ dx → dx ≠ x → h'.get? x = some { cls := .ref C, dict := some dx, data := .fields fv } →
      h'.Ns1 dx (fun y => if y = name then some v else none) → R (.ok (.ret .none)) ⟨h', g, d, tk', os⟩) :
    codeAny (model prog w) A (.call (.builtin "object.__setattr__") ⟨[.ref x, .str name tk, v], []⟩) R ⟨hp, g, d, t, os⟩ := by
  have I : W.InstAt hp x { cls := .ref C, data := .fields fv } C none := ⟨hx, rfl, rfl, trivial⟩
  have SF := F.store_object
  have ne : cd.mro.isEmpty = false := by rw [hm]; rfl
  have hob : cd.mro.contains (.type "object") = true := by
    rw [hm, List.contains_cons, ht.contains]
    exact (by decide +kernel : (Value.type "object" == Value.ref 0 || ESX.exTail.contains (.type "object")) = true)
  have hxs : x ≠ hp.objs.size := Nat.ne_of_lt (Heap.lt_size hx)
  have sub : W.Looks (model prog w) hp (isInstance (.ref x) (.type "object")) true := I.type.andThen (W.looks_mroIn X (by unfold W.mroIn; rw [hcd, Option.bind_some, if_neg (by rw [ne]; decide), hob]))
  refine codeAny_call_builtin SF.slot.plain SF.entry (@W.check_slot (model prog w) _ _ ⟨hp, g, d, t, os⟩ "object.__setattr__" "object" "__setattr__" (.ref x) [.str name tk, v] [] _ SF.kind SF.split sub (SF.args (.ref x) (.str name tk) v) ?_)
  have hmr : W.Looks (model prog w) hp (mroOf (.ref C)) cd.mro := (W.looks_clsIn X hcd).andThen .now
  have L3 : W.Looks (model prog w) hp (storeTaker? none) none := .now
  have hcls : W.Looks (model prog w) hp (classData C) cd := W.looks_clsIn X hcd
  rw [W.osa_eq, refuse_eq]
  refine wpAny_bind (wpAny_bind (I.type.at (wpAny_bind (hmr.at ?_))))
  rw [hm, ht.pass]
  refine wpAny_pure (wpAny_bind (I.type.at (wpAny_bind ((W.looks_findIn X ha).at (wpAny_bind (L3.at ?_))))))
  show wpAny _ _ (storeInOwnDict (.ref x) (.ref C) (.str name tk) name v false) _ _ _
  obtain ⟨nm, bs, mro, ns, qn, hd, sn, sb, ab, col, del⟩ := cd
  dsimp only at hh
  subst hh
  unfold storeInOwnDict ownDictForStores
  repeat (first | with_reducible refine HandSPX.store_in_new ?_ ?_ | with_reducible refine wpAny_loadPart_at hx ?_ | with_reducible refine hcls.at ?_ | wp_step)
  · exact ⟨_, #[], _, (Heap.get?_update_ne _ _ _ _ hxs.symm).trans (Heap.get?_push_at rfl rfl), rfl, fun e he => absurd he (by simp), fun _ => rfl⟩
  · intro h' tk' hn' hs
    have hx₁ : (hp.push { cls := .type "dict", data := .dict #[] }).get? x = some { cls := .ref C, data := .fields fv } := Heap.get?_push_of_some _ hx
    refine hq h' tk' hp.objs.size (fun b o hb ho => ?_) (Nat.le_refl _) hxs.symm ?_ hn'
    · exact (hs.2 b (Nat.ne_of_lt (Heap.lt_size ho))).trans ((Heap.get?_update_ne _ _ _ _ hb).trans (Heap.get?_push_of_some _ ho))
    · exact (hs.2 x hxs).trans (Heap.get?_update_self _ hx₁ rfl)
end
end YrX
end PySem

namespace Sim
open PySem PySem.Spec PyProof.Rows L2 PySem.YrX

/-- the text of __init__ -/
def yBody : List Stmt := [.Expr (.Call (.Attribute (.Call (.Name "super" ⟨5, 8, 5, 13⟩) [] [] ⟨5, 8, 5, 15⟩) "__init__" ⟨5, 8, 5, 24⟩) [.Name "thing" ⟨5, 25, 5, 30⟩] [] ⟨5, 8, 5, 31⟩) ⟨5, 8, 5, 31⟩, .Assign [.Attribute (.Name "self" ⟨6, 8, 6, 12⟩) "thing" ⟨6, 8, 6, 18⟩] (.Name "thing" ⟨6, 21, 6, 26⟩) ⟨6, 8, 6, 26⟩]
def yArgs : Arguments := { posonlyargs := [], args := [{ arg := "self", annotation := none, pos := ⟨4, 17, 4, 21⟩ }, { arg := "thing", annotation := none, pos := ⟨4, 23, 4, 28⟩ }], vararg := none, kwonlyargs := [], kw_defaults := [], kwarg := none, defaults := [] }
def yScope : Scope := { kind := .function, names := [(PySem.Str.ofString "self", .local), (PySem.Str.ofString "thing", .local), (PySem.Str.ofString "__class__", .free), (PySem.Str.ofString "super", .globalImplicit)], isGenerator := false, isCoroutine := false, more := [] }
def yN : List Str := ["self", "thing", "__class__"]
/-- what the written part says of __init__ at fI, its cell cc, its code cda, its class Y -/
structure YI (P : Program) (K : PySem.W.Frag) (fI cc cda Y : Addr) : Prop where
  fn : ∃ (oc : Value) (od : Option Addr) (doc pm : Value) (an : Option Addr) (ct : Value) (osl : Array (Option Value)),
    K.lookup fI = some ⟨oc, od, .func (PySem.W.ksFn "__init__" "YardError.__init__" yArgs yBody yScope .none .none doc pm an (.ref cda) ct cc), osl⟩
  cd : PySem.W.codeIn K (.ref cda) "YardError.__init__" = true
  code : ∃ (ccl : Value) (cdd : Option Addr) (vs : Array Value) (ccs : Array (Option Value)) (file : Str) (tf : Tok), K.lookup cda = some ⟨ccl, cdd, .fields vs, ccs⟩ ∧ vs[2]? = some (.str file tf) ∧ ((P.main.file : Str) == file) = true
  cell : ∃ (cl : Value) (cld : Option Addr) (csl : Array (Option Value)), K.lookup cc = some ⟨cl, cld, .cell (some (.ref Y)), csl⟩
  clsY : ∃ cdY, PySem.W.clsIn K Y = some cdY
  tp : PySem.W.nsIn K cStatics "thirdparty.any" = some none
  top : (P.main.scope.names.lookup ("super" : Str)).isSome = false
  tI : PySem.W.typeIn K (.ref fI) = some (.type "function")
/-- what it says of a class of errors at C (Y itself, or one below it) -/
structure YC (K : PySem.W.Frag) (C Y fI : Addr) : Prop where
  cls : ∃ nm q N bs bm sn sub ab col dd k0 k1 k2 k3 k5, K.lookup C = some (excClassObj nm q C N bs bm true sn sub ab col dd k0 k1 k2 k3 k5 "Exception.__new__") ∧ ((bm = ESX.exTail ∧ C = Y) ∨ (bm = .ref Y :: ESX.exTail ∧ C ≠ Y))
  sa : PySem.W.findIn K (.ref C) "__setattr__" = some (some (.builtin "object.__setattr__"))
  exC : PySem.W.subIn K (.ref C) (.type "BaseException") = some true
  exE : PySem.W.subIn K (.ref C) (.type "Exception") = some true
  exY : PySem.W.mroIn K C (.ref Y) = some true
  tyC : PySem.W.typeIn K (.ref C) = some (.type "type")
  kC : PySem.W.keepIn K (.ref C) = true
  iC : PySem.W.findIn K (.ref C) "__init__" = some (some (.ref fI))
  noT : PySem.W.findIn K (.ref C) "thing" = some none
section
variable {K : PySem.W.Frag} {C Y fI : Addr}
theorem YC.tail (T : YC K C Y fI) : ∃ nm q N bs bm sn sub ab col dd k0 k1 k2 k3 k5, K.lookup C = some (excClassObj nm q C N bs bm true sn sub ab col dd k0 k1 k2 k3 k5 "Exception.__new__") ∧ TailOk bm ∧ ((Value.ref C :: bm).dropWhile (· != .ref Y)).drop 1 = ESX.exTail := by
  obtain ⟨nm, q, N, bs, bm, sn, sub, ab, col, dd, k0, k1, k2, k3, k5, hC, h⟩ := T.cls
  refine ⟨nm, q, N, bs, bm, sn, sub, ab, col, dd, k0, k1, k2, k3, k5, hC, ?_⟩
  rcases h with ⟨rfl, rfl⟩ | ⟨rfl, h⟩
  · exact ⟨.inl rfl, ESX.drop_own _ _⟩
  · refine ⟨.inr ⟨Y, rfl⟩, ?_⟩
    have : (Value.ref C != Value.ref Y) = true := by simp [h]
    rw [List.dropWhile_cons, if_pos this]
    exact ESX.drop_own _ _
variable {X : Cx} {pins : List (Addr × Obj)} {σ : L2.St} {H : Hp} {s : Shared} {a dx : Addr} {f : Str} {y : V} {u : Value} {Q : Unit → Shared → Prop} {E : Value → Shared → Prop} {A : Around}
theorem yst_new (T : YC X.K C Y fI) (I : Inv X pins σ H s) (e : H a = some (exo a C none)) (ry : RelV y u)
    (h : ∀ dx s', H dx = none → dx ≠ a → Inv X pins σ (upd (upd H dx (exd dx [("thing", y)])) a (exo a C (some dx))) s' → Q () s') : wpAny (model X.prog X.w) A (setAttr (.ref a) "thing" u) Q E s := by
  obtain ⟨nm, q, N, bs, bm, sn, sub, ab, col, dd, k0, k1, k2, k3, k5, hC, ht, _⟩ := T.tail
  have hcl : PySem.W.clsIn X.K C = some { name := nm, bases := bs, mro := .ref C :: bm, ns := N, qualname := q, hasDict := true, slotNames := sn, subclasses := sub, abstract := ab, collection := col, hasDel := false } := by unfold PySem.W.clsIn; rw [hC] <;> rfl
  obtain ⟨t1, ho⟩ := exo_at I.hok e
  obtain ⟨hp, g, d, t, os⟩ := s
  refine PySem.W.set_plain I.kIn (ox := { cls := .ref C, dict := none, data := .fields #[.ref t1, .none, .none, .none, .bool false, .none] }) (od := none) ⟨ho, rfl, rfl, trivial⟩ T.sa ?_
  refine YrX.exc_osa I.kIn ho hcl rfl ht rfl T.noT (fun h' tk' dx k dn dne hx hn => ?_)
  have hnd : H dx = none := I.hok.fresh dn
  have nd : ∀ {b : Addr} {o : Obj}, hp.get? b = some o → b ≠ dx := fun {b o} q => Nat.ne_of_lt (Nat.lt_of_lt_of_le (Heap.lt_size q) dn)
  have na : ∀ {b : Addr}, H b = none → b ≠ a := fun {b} n z => by
    rw [z, e] at n
    cases n
  have Un1 : Un X.fs [] H (upd (upd H dx (exd dx [("thing", y)])) a (exo a C (some dx))) hp h' := {
    keep := fun b o q n _ _ => k b o (na n) q
    slot := fun b o q n _ _ => ⟨o.slots, k b o (na n) q⟩
    free := fun b o q n _ => by rw [upd_ne (na n), upd_ne (nd q)]; exact n
    there := fun b o q _ => by
      by_cases hb : b = a
      · exact ⟨_, by rw [hb]; exact hx⟩
      · exact ⟨o, k b o hb q⟩
    tups := fun b xs q => by rw [upd_ne (at_ne e q exo_tup), upd_ne (ne_of_none q hnd)]; exact q
    frzs := fun b o v q => by rw [upd_ne (at_ne e q exo_frz), upd_ne (ne_of_none q hnd)]; exact q
    tbls := fun b ps q => ⟨#[], by rw [upd_ne (at_ne e q exo_tbl), upd_ne (ne_of_none q hnd), q]; simp⟩ }
  refine h dx _ hnd dne (I.un (t' := tk') Un1 fun b o q => ?_)
  by_cases hb : b = a
  · subst hb
    rw [upd_same] at q
    cases q
    exact exo_ok hx
  · rw [upd_ne hb] at q
    by_cases hd : b = dx
    · subst hd
      rw [upd_same] at q
      cases q
      exact exd_ok hn (relO_put (fs := []) ry fun g => True.intro)
    · rw [upd_ne hd] at q
      exact (I.hok b o q).stay (fun c v hc z => k c v (by
          rcases hc with hc | hc
          · rw [hc]
            exact hb
          · exact at_ne e hc exo_own) z)
        (fun c hc => by rw [upd_ne (at_ne e hc exo_own), upd_ne (ne_of_none hc hnd)]; exact hc) (fun c xs hc => by rw [upd_ne (at_ne e hc exo_tup), upd_ne (ne_of_none hc hnd)]; exact hc)
end
end Sim


namespace Sim
open PySem PySem.Spec PyProof.Rows L2 PySem.YrX NdefX
section
variable {P : Program} {w : World} {K : PySem.W.Frag} {mg : Str → Option Value} {base : Heap} {C Y fI cc cda : Addr}
/-- __init__ runs -/
theorem yinit_run {A : Around} {outer : List Env} {s : Shared} {H : Hp} {a : Addr} {v : V} {u : Value} (hr : Room 0 A) (e0 : Env0 P w K mg base A outer s H) (hmg : mg "super" = none) (T : YC K C Y fI) (I : YI P K fI cc cda Y) (e : H a = some (exo a C none)) (rv : RelV v u) :
    codeAny (model P w) A (.call (.ref fI) ⟨[.ref a, u], []⟩) (CR CX0 outer P w H s (fun x H' => x = .non ∧ ∃ d, H d = none ∧ d ≠ a ∧ H' = upd (upd H d (exd d [("thing", v)])) a (exo a C (some d))) E0) s := by
  obtain ⟨oc, od, doc, pm, an, ct, osl, lk⟩ := I.fn
  obtain ⟨ccl, cdd, vs, ccs, file, tf, lcode, hvs, hfile⟩ := I.code
  obtain ⟨cl, cld, csl, lcell⟩ := I.cell
  obtain ⟨cdY, hY⟩ := I.clsY
  have KX : K.In s.heap := e0.mod.kin.keeps fun b o e => (e0.bs b o e).1
  have lim : s.heap.NoLimit := e0.mod.nolimit.keeps fun b o e => (e0.bs b o e).1
  let Fn : NF := ⟨"__init__", "YardError.__init__", yArgs, yBody, yScope, [("__class__", cc)], cda⟩
  have S0 : NScope yN ["self", "thing"] ["__class__"] yScope := nscope_by (by decide +kernel)
  have S : NScope yN ["self", "thing"] ["__class__"] Fn.scope := S0
  have hcc : s.heap.IsCell cc (some (.ref Y)) := ⟨_, KX _ _ lcell, rfl⟩
  have hccH : H cc = none := (e0.bs cc _ (e0.mod.kin _ _ lcell)).2
  have C0 : CellsAt Fn.cl ["__class__"] [some (.ref Y)] s.heap H := {
    len := rfl
    all := fun y c h => by
      have : ([("__class__", cc)] : List (Str × Addr)).lookup y = some c := h
      by_cases hy : y = "__class__"
      · subst hy
        cases this
        exact ⟨hccH, _, hcc⟩
      · have e2 : (y == ("__class__" : Str)) = false := by simpa using hy
        simp [List.lookup, e2] at this
    inj := fun x y c h1 h2 => by
      have h1 : ([("__class__", cc)] : List (Str × Addr)).lookup x = some c := h1
      have h2 : ([("__class__", cc)] : List (Str × Addr)).lookup y = some c := h2
      have key : ∀ z : Str, ([("__class__", cc)] : List (Str × Addr)).lookup z = some c → z = "__class__" := fun z h => by
        by_cases hz : z = "__class__"
        · exact hz
        · have e2 : (z == ("__class__" : Str)) = false := by simpa using hz
          simp [List.lookup, e2] at h
      rw [key x h1, key y h2]
    has := fun i y h => by
      cases i with
      | zero =>
        cases h
        exact ⟨cc, rfl, fun v hv => by
          cases hv
          exact ⟨.ref Y, rfl, hcc⟩⟩
      | succ i => simp at h }
  refine ks_codeAny_call_defAt (fd := PySem.W.ksFn "__init__" "YardError.__init__" yArgs yBody yScope .none .none doc pm an (.ref cda) ct cc) (body := yBody) (binds := [("self", .ref a), ("thing", u)])
    hr.depth (KX _ _ lk) rfl lim (PySem.W.codeRec_of KX I.cd) rfl (.of_eq rfl) (show ∀ x ∈ yScope.names, x.2 ≠ .cell by decide) (fun x hx => ?_) (fun h₁ hns kp => ?_)
  · rcases List.mem_cons.mp hx with rfl | hx
    · rfl
    · rcases List.mem_cons.mp hx with rfl | hx
      · rfl
      · cases hx
  have J0 : Inv (ncx CX0 P w K mg base yN Fn fI A outer s H E0) [] (startF yN [.ref a, v] [some (.ref Y)]) H { s with heap := h₁, toks := s.toks + [("self", Value.ref a), ("thing", u)].length } :=
    inv_startN (us := [.ref a, u]) S hr.hd e0 rfl (.cons rfl (.cons rv .nil)) C0 hns kp
  let X : Cx := ncx CX0 P w K mg base yN Fn fI A outer s H E0
  have KX1 : K.In h₁ := KX.keeps kp
  obtain ⟨oY, hY1, hY2⟩ : ∃ oD, h₁.get? Y = some oD ∧ oD.data = .cls cdY := by
    unfold PySem.W.clsIn at hY
    split at hY
    · rename_i c d cd' sl ho
      cases hY
      exact ⟨_, KX1 _ _ ho, rfl⟩
    · cases hY
  obtain ⟨nm, q, N, bs, bm, sn, sub, ab, col, dd, k0, k1, k2, k3, k5, hC, ht, hdrop⟩ := T.tail
  have hcl : PySem.W.clsIn K C = some { name := nm, bases := bs, mro := .ref C :: bm, ns := N, qualname := q, hasDict := true, slotNames := sn, subclasses := sub, abstract := ab, collection := col, hasDel := false } := by unfold PySem.W.clsIn; rw [hC] <;> rfl
  obtain ⟨t1, hox⟩ := exo_at J0.hok e
  obtain ⟨m, hn, hl⟩ := id J0.loc
  have look : ∀ (i : Nat) (y : Str) (v' : V), yN[i]? = some y → (startF yN [.ref a, v] [some (.ref Y)])[i]? = some (some v') → Vis yScope y → ∃ u', RelV v' u' ∧ Look X.env h₁ m y u' := fun i y v' e1 e2 e3 => hl i y v' e1 e2 e3
  show _root_.PySem.wpAt (model P w) (A.deeper (PySem.W.ksEnv "YardError.__init__" yScope s.heap.objs.size fI (.ref cda) cc)) (.func yBody (PySem.W.ksEnv "YardError.__init__" yScope s.heap.objs.size fI (.ref cda) cc))
    (execs [.Expr (.Call (.Attribute (.Call (.Name "super" ⟨5, 8, 5, 13⟩) [] [] ⟨5, 8, 5, 15⟩) "__init__" ⟨5, 8, 5, 24⟩) [.Name "thing" ⟨5, 25, 5, 30⟩] [] ⟨5, 8, 5, 31⟩) ⟨5, 8, 5, 31⟩, .Assign [.Attribute (.Name "self" ⟨6, 8, 6, 12⟩) "thing" ⟨6, 8, 6, 18⟩] (.Name "thing" ⟨6, 21, 6, 26⟩) ⟨6, 8, 6, 26⟩] (PySem.W.ksEnv "YardError.__init__" yScope s.heap.objs.size fI (.ref cda) cc)) _ _ _
  refine ks_wpAt_execs_cons (ks_wpAt_Expr_any (ks_wpAt_MethodCall ?_))
  refine ks_wpAt_super_base (env := PySem.W.ksEnv "YardError.__init__" yScope s.heap.objs.size fI (.ref cda) cc) rfl rfl rfl rfl (KX1 _ _ lk) rfl rfl rfl (KX1 _ _ lcode) rfl hvs hfile I.top ?_
  obtain ⟨mb, hb1, hb2⟩ := J0.mod.blt
  refine PySem.W.ks_loadName_global rfl rfl (Calls.loadGlobal_builtin (by exact J0.mod.glob.keeps J0.bk) hmg (by exact hb1.keeps J0.bk) ((hb2 _ (by decide)).trans (by decide +kernel : bootBuiltins "super" = some (.type "super"))) ⟨rfl, ?_⟩)
  refine wpAny_loadName_free rfl rfl rfl ⟨_, KX1 _ _ lcell, rfl⟩ ?_
  obtain ⟨u0, ru0, lu0⟩ := look 0 "self" (.ref a) rfl rfl (.inl rfl)
  obtain rfl : u0 = Value.ref a := ru0
  have hms : m "self" = some (.ref a) := by
    rcases lu0 with ⟨_, z⟩ | ⟨z, _⟩
    · exact z
    · have z1 : yScope.names.lookup ("self" : Str) = some .cell ∨ yScope.names.lookup ("self" : Str) = some .free := z
      exact absurd z1 (by decide)
  refine wpAny_loadName_local rfl rfl hn hms ?_
  refine ks_wpAny_isType_cls hY1 hY2 ⟨rfl, ?_⟩
  have hox1 : h₁.get? a = some { cls := .ref C, dict := none, data := .fields #[.ref t1, .none, .none, .none, .bool false, .none] } := hox
  have haC : a ≠ C := fun z => by
    have := (e0.bs C _ (e0.mod.kin _ _ hC)).2
    rw [← z, e] at this
    cases this
  refine ks_wpAny_call_super hY1 hY2 hox1 rfl (fun c z => by cases z) (PySem.W.looks_mroIn KX1 T.exY) (fun h2 e2 k2 => ?_)
  have KX2 : K.In h2 := KX1.keeps k2
  have hox2 := k2 _ _ hox1
  have IA : PySem.W.InstAt h2 a { cls := .ref C, dict := none, data := .fields #[.ref t1, .none, .none, .none, .bool false, .none] } C none := ⟨hox2, rfl, rfl, trivial⟩
  refine ESX.getMethod_super (D := Y) (x := a) (C := C) (l₀ := .ref C :: bm) e2 (PySem.W.looks_opaque KX2 I.tp) ?_ hdrop KX2 (ESX.along_init K) haC (by decide +kernel) (IA.type.andThen (PySem.W.looks_subIn KX2 T.exE)) ?_
  · exact fun A Q E s k q => wpAny_bind ((PySem.W.looks_clsIn KX2 hcl) A _ E s k (wpAny_pure q))
  have J1 : Inv X [] (startF yN [.ref a, v] [some (.ref Y)]) H { s with heap := h2, toks := s.toks + [("self", Value.ref a), ("thing", u)].length } := J0.kept (h' := h2) k2
  have J2 : Inv X [] (startF yN [.ref a, v] [some (.ref Y)]) H { s with heap := h2.push (ESX.bw a), toks := s.toks + [("self", Value.ref a), ("thing", u)].length + 1 } := J1.kept fun b o z => Heap.get?_push_of_some _ z
  have fp := J1.fpOk (Nat.le_refl _) (J1.hok.fresh (Nat.le_refl _))
  have J3 := J2.pinned (fp := [h2.objs.size]) (fun b hb => by
    have : b = h2.objs.size := by simpa using hb
    subst this
    exact fp) (fun b hb => by
    have : b = h2.objs.size := by simpa using hb
    subst this
    exact ⟨_, Heap.get?_push_size _ rfl, fun v z => by cases z⟩)
  have args := (pa_cons (X := X) (e := .Name "thing" ⟨5, 25, 5, 30⟩) (pv 1) pa_nil).run ⟨5, 8, 5, 31⟩ _ _ _ H (fun vs H' => vs = [v] ∧ H' = H) J3 ⟨v, rfl, rfl, rfl⟩
  refine ESX.callWith_bound (x := a) (wpAny_mono args (fun us s3 hq => ?_) fun _ _ z => z)
  obtain ⟨vs3, H3, I3, r3, ev, eH⟩ := hq
  subst ev eH
  obtain ⟨u3, rfl, r3⟩ := vals1 r3
  refine ⟨(I3.pin (h2.objs.size, ESX.bw a) (List.mem_append_right _ (List.mem_append_right _ (mem_pinsAt (by simp) (Heap.get?_push_size _ rfl))))).1, ?_⟩
  have hu3 := (I3.pin (h2.objs.size, ESX.bw a) (List.mem_append_right _ (List.mem_append_right _ (mem_pinsAt (by simp) (Heap.get?_push_size _ rfl))))).1
  obtain ⟨t3, hox3⟩ := exo_at I3.hok e
  have hC3 := I3.kIn _ _ hC
  obtain ⟨hp, g, d, t, os⟩ := s3
  refine ESX.call_bw hC3 hox3 hu3 (by rw [sizeLine_eq]; show 1 ≤ 16777216; decide) fun h4 t4 k4 hx4 => ?_
  have J4 := I3.unpinned.write (t' := t) (x := a) (e := a) (o := exo a C none) (by rw [e]; exact True.intro) (.inl rfl) k4 ⟨_, hx4⟩ (exo_ok hx4)
  have eu : upd H3 a (exo a C none) = H3 := by
    funext b
    by_cases hb : b = a
    · rw [hb, upd_same, e]
    · rw [upd_ne hb]
  rw [eu] at J4
  refine _root_.PySem.wpAt_of_wpAny (wpAny_execs_cons (plainObj_wpAny_Assign_Attribute ?_))
  refine wpAny_mono ((pv (X := X) 1).run _ _ _ H3 (fun y H' => y = v ∧ H' = H3) J4 ⟨v, rfl, rfl, rfl⟩) (fun u5 s5 hq => ?_) fun _ _ z => z
  obtain ⟨y5, H5, I5, r5, ey, eH⟩ := hq
  subst ey eH
  refine wpAny_mono ((pv (X := X) 0).run _ _ _ H5 (fun y H' => y = .ref a ∧ H' = H5) I5 ⟨.ref a, rfl, rfl, rfl⟩) (fun u6 s6 hq => ?_) fun _ _ z => z
  obtain ⟨y6, H6, I6, r6, ey6, eH6⟩ := hq
  subst ey6 eH6
  obtain rfl : u6 = Value.ref a := r6
  refine yst_new (Y := Y) (fI := fI) T I6 e r5 fun dx s' hd ne J7 => wpAny_execs_nil ?_
  exact ⟨.non, _, J7.os, J7.bare, J7.base, J7.hok, rfl, rfl, dx, hd, ne, rfl⟩

/-- C(e): an error is made -/
theorem pmk_yard {X : Cx} {x : Str} {k : Nat} {e : Expr} {te : TE} {p pos : Pos} (T : YC X.K C Y fI) (I : YI X.prog X.K fI cc cda Y) (hmg : X.mg "super" = none) (hr : Room 1 X.A) (hg : Gl X x) (hm : X.mg x = some (.ref C)) (he : PE X e te)
    (hdb : (x == ("__debug__" : Str)) = false := by decide) (hst : starEach (e :: []) X.env = (false, eval e X.env) :: starEach [] X.env := by rfl) (hpl : (backTo pos (starEach [] X.env)).any (·.1) = false := by rfl) :
    PMk X (.Call (.Name x p) [e] [] pos) (fun σ H Q => te σ H fun v H1 => ∀ d, H1 d = none → Q (.ref C) (some d) (upd H1 d (.xd [("thing", v)]))) := by
  intro pins s σ H Q I0 h
  obtain ⟨nm, q, N, bs, bm, sn, sub, ab, col, dd, k0, k1, k2, k3, k5, hC, ht, hdrop⟩ := T.tail
  refine wpAny_Call_Name_kw (ld_glob I0 hg hm ?_ hdb)
  refine PySem.W.callWith_K (h₀ := X.base) I0.ok.mod.kin T.kC (thn ((pa_cons he pa_nil hst).run pos pins s σ H (fun vs H1 => match vs with | [v] => ∀ d, H1 d = none → Q (.ref C) (some d) (upd H1 d (.xd [("thing", v)])) | _ => False) I0 h) fun us s1 hq => ?_) hst hpl
  obtain ⟨vs, H1, I1, r1, q1⟩ := hq
  refine ⟨I1.kIn, ?_⟩
  obtain ⟨v, rfl, q1⟩ : ∃ v, vs = [v] ∧ ∀ d, H1 d = none → Q (.ref C) (some d) (upd H1 d (.xd [("thing", v)])) := by
    match vs, q1 with
    | [v], q1 => exact ⟨v, rfl, q1⟩
  obtain ⟨u, rfl, rv⟩ := vals1 r1
  show wpAny _ _ (call (.ref C) [u]) _ _ _
  obtain ⟨hp, g, dr, tk, os⟩ := s1
  have hsz : hp.objs.size ≤ hp.objs.size + 1 := Nat.le_succ _
  have hn : H1 (hp.objs.size + 1) = none := I1.hok.fresh hsz
  have kk : ∀ b o, hp.get? b = some o → ((hp.push (PySem.W.kdv_tup [u])).push (PySem.HandSPX.excO C hp.objs.size)).get? b = some o := fun b o e => Heap.get?_push_of_some _ (Heap.get?_push_of_some _ e)
  have hget : ((hp.push (PySem.W.kdv_tup [u])).push (PySem.HandSPX.excO C hp.objs.size)).get? (hp.objs.size + 1) = some (PySem.HandSPX.excO C hp.objs.size) := by heap_get
  have I2 : Inv X pins σ (upd H1 (hp.objs.size + 1) (exo (hp.objs.size + 1) C none)) ⟨(hp.push (PySem.W.kdv_tup [u])).push (PySem.HandSPX.excO C hp.objs.size), g, dr, tk, os⟩ :=
    I1.laid (t' := tk) (a := hp.objs.size + 1) (o := exo (hp.objs.size + 1) C none) (h' := (hp.push (PySem.W.kdv_tup [u])).push (PySem.HandSPX.excO C hp.objs.size)) kk hsz (exo_ok hget)
  refine wpAny_call (PySem.HandSPX.call_own F.excBase_Exception ht.contains (I1.kIn _ _ hC) (PySem.W.looks_findIn I1.kIn T.iC) (fun self => PySem.W.bind_fn I1.kIn self I.tI) (by rw [sizeLine_eq]; show 1 ≤ 16777216; decide)
    (codeAny_mono (yinit_run (hr.make C [u] []) (I2.env0.make C [u] []) hmg T I upd_same rv) fun r s' hq' => ?_))
  cases r with
  | error er => exact hq'.elim
  | ok fl =>
    cases fl with
    | ret u' =>
      obtain ⟨v', H2, os2, bare2, un2, hok2, rv', ev, d, hd1, hda, eH⟩ := hq'
      subst ev
      obtain ⟨h2, g2, d2, t2, os'⟩ := s'
      subst eH
      have ea : upd (upd (upd H1 (hp.objs.size + 1) (exo (hp.objs.size + 1) C none)) d (exd d [("thing", v)])) (hp.objs.size + 1) (exo (hp.objs.size + 1) C (some d)) (hp.objs.size + 1) = some (exo (hp.objs.size + 1) C (some d)) := upd_same
      have ed : upd (upd (upd H1 (hp.objs.size + 1) (exo (hp.objs.size + 1) C none)) d (exd d [("thing", v)])) (hp.objs.size + 1) (exo (hp.objs.size + 1) C (some d)) d = some (exd d [("thing", v)]) := by rw [upd_ne hda, upd_same]
      have hd0 : H1 d = none := by rw [upd_ne hda] at hd1; exact hd1
      refine ⟨rv', mk_end (fs := [("thing", v)]) (raises_own T.exC T.tyC) I1 hsz kk un2 hok2 os2 bare2 ea ed hd0 ?_⟩
      have : upd (del (upd (upd (upd H1 (hp.objs.size + 1) (exo (hp.objs.size + 1) C none)) d (exd d [("thing", v)])) (hp.objs.size + 1) (exo (hp.objs.size + 1) C (some d))) (hp.objs.size + 1)) d (.xd [("thing", v)]) = upd H1 d (.xd [("thing", v)]) := by
        funext b
        by_cases hb : b = d
        · rw [hb, upd_same, upd_same]
        · rw [upd_ne hb, upd_ne hb]
          by_cases hb2 : b = hp.objs.size + 1
          · rw [hb2, del_same, hn]
          · rw [del_ne hb2, upd_ne hb2, upd_ne hb, upd_ne hb2]
      rw [this]
      exact q1 d hd0
    | next => exact False.elim hq'
    | brk => exact False.elim hq'
    | cont => exact False.elim hq'
end
end Sim


/-! Sim, part Y: raise; try with several clauses «as e»; a lambda handed to a def that tries it. -/
namespace Sim
open PySem PySem.Spec PyProof.Rows L2

/-! ### raise C(e) -/
def sRaise (C : Addr) (te : TED) : TSD := fun Ex sl cs _ => te Ex sl cs fun d cs1 => Ex C d cs1
theorem simS_raise {B : Bx} {G : Gx} {x : Str} {C Y fI cc cda : Addr} {k : Nat} {e : Expr} {te : TED} {p pos rpos : Pos} (good : Good G k B) (tk : Takes B.X (fun c d _ H => B.E c d H)) (T : YC G.K C Y fI) (I : YI G.P G.K fI cc cda Y) (hsup : G.mg "super" = none) (hm : G.mg x = some (.ref C)) (he : SimE B e te) (hk : 1 ≤ k := by decide) (hg : Gl B.X x := by rfl)
    (hdb : (x == ("__debug__" : Str)) = false := by decide) (hst : starEach (e :: []) B.X.env = (false, eval e B.X.env) :: starEach [] B.X.env := by rfl) (hpl : (backTo pos (starEach [] B.X.env)).any (·.1) = false := by rfl) :
    SimS B (.Raise (some (.Call (.Name x p) [e] [] pos)) none rpos) (sRaise C te) :=
  PS.to (ps_raise good.calm tk (pmk_yard (k := 0) (C := C) (Y := Y) (fI := fI) (cc := cc) (cda := cda) (by rw [good.ing.K]; exact T) (by rw [good.ing.K, good.ing.P]; exact I) (by rw [good.ing.mg]; exact hsup) (good.room.mono hk) hg (by rw [good.ing.mg]; exact hm) he hdb hst hpl)) fun Dn σ H ⟨F, m, cs, sl, Ex, P, A, X, h, k⟩ =>
    ⟨F, m, cs, sl, Ex, _, A, X, h, fun F1 m1 H1 cs1 d v p1 M g r dx hdx => X C d cs1 F1 m1 _ v dx p1 (M.other hdx) ((A.gr.trans g).trans (.other hdx)) r upd_same⟩

/-! ### several clauses, each «as n» -/
/-- what the clauses wish of an exception of the body, one after the other -/
def wManyAs (K : PySem.W.Frag) (Wout : WX) (D : Ends) : List (Value × Nat × (Addr → Value → Option Addr → TS)) → WX
  | [] => Wout
  | (c, i, ts) :: r => fun cls d σ H => ∃ b, PySem.W.exmOne K cls c = some b ∧
      (b = true → i < σ.length → ∀ a, H a = none → ts a cls d { nx := fun σ' H' => D.nx (σ'.set i none) H', rt := D.rt, bk := fun σ' H' => D.bk (σ'.set i none) H', ct := fun σ' H' => D.ct (σ'.set i none) H' } (σ.set i (some (.ref a))) H) ∧ (b = false → wManyAs K Wout D r cls d σ H)
inductive HdsAs (X : Cx) : List ExceptHandler → List (Value × Nat × (Addr → Value → Option Addr → TS)) → Prop
  | nil : HdsAs X [] []
  | cons {x n : Str} {c : Value} {i : Nat} {ts : Addr → Value → Option Addr → TS} {b₀ : Stmt} {suite : List Stmt} {np pos' : Pos} {hds : List ExceptHandler} {l : List (Value × Nat × (Addr → Value → Option Addr → TS))} (hi : X.N[i]? = some n) (hln : X.env.kindOf n = some .local) (hc : Names X x c)
      (hsu : ∀ (a : Addr) (oe : Obj) (cls : Value) (d : Option Addr) (pn : List (Addr × Obj)), Zc cls d oe → (∃ vs, oe.data = .fields vs) → PSs (X.suite a ((a, oe) :: pn)) (b₀ :: suite) (ts a cls d)) (r : HdsAs X hds l) :
      HdsAs X (.ExceptHandler (some (.Name x np)) (some n) (b₀ :: suite) pos' :: hds) ((c, i, ts) :: l)
section
variable {X : Cx} {body : List Stmt} {h₀ : ExceptHandler} {hds : List ExceptHandler} {l : List (Value × Nat × (Addr → Value → Option Addr → TS))} {pos : Pos} {tb : WX → TS} {Wout : WX}
theorem ps_try_manyAs (hs : X.stack = X.env :: X.outer) (hf : X.env.frame = some X.env.locals) (hN : X.N.Nodup) (tk : Takes X Wout)
    (hb : ∀ (W : WX) (pn : List (Addr × Obj)) (xe : Value → Shared → Prop), Takes (X.tr pn xe) W → PassesOwn (model X.prog X.w) X.A X.env xe → PSs (X.tr pn xe) body (tb W))
    (hh : HdsAs X (h₀ :: hds) l) : PS X (.Try body (h₀ :: hds) [] [] pos) (fun D σ H => tb (wManyAs X.K Wout D l) D σ H) := by
  refine ⟨fun pins s σ H D I h => ?_⟩
  have ok := I.ok
  have hfr : X.A.frames = some (X.env :: X.outer) := by rw [ok.frames, hs]
  refine wpAny_Try_except ?_
  refine wpAny_mono ((hb (wManyAs X.K Wout D l) (X.pn ++ pins) (fun e s₁ => wpAny (model X.prog X.w) X.A (noteFrame e X.env) (fun _ s₂ => wpAny (model X.prog X.w) X.A (setFlight e none) (fun _ s₃ =>
    wpAny (model X.prog X.w) X.A (handleBy e X.env (h₀ :: hds)) (SP X pins D) X.xe s₃) X.xe s₂) X.xe s₁) (fun u s' xx => ?_) PassesOwn.looking).run [] s σ H D (I.toTry _) h) (fun f s1 hsp => ?_) (fun e s1 he => he)
  · obtain ⟨a, B, sI, pins', σ', H', cls, d, rfl, J', nb, up, sky, na, os, ag, w⟩ := xx
    have J : Inv X pins σ' H' sI := J'.ofTry ok
    have sky' : Sky B (X.env :: X.outer) a (Zc cls d) X.env.locals s'.heap := by rw [← hs]; exact sky
    show wpAny (model X.prog X.w) X.A (noteFrame (.ref a) X.env) _ _ _
    refine Sky.land Zc.steady hfr hf sky' fun h3 fl3 up3 => ?_
    have J3 : Inv X pins σ' H' { s' with heap := h3 } := J.landed nb fl3.1 (up.trans up3) os ag
    obtain ⟨oe3, vs3, he3, hz3, hd3⟩ := fl3.there
    have notFr : ∀ {h : Heap} {o : Obj} {vs : Array Value}, h.FunFrames B (X.env :: X.outer) → h.get? a = some o → o.data = .fields vs → a ∉ frs (X.env :: X.outer) := fun {h o vs} ff e dd hm => by
      obtain ⟨_, o', e', hnf⟩ := ff.mem hm
      rw [e] at e'; cases e'
      exact hnf _ dd
    have nfr := notFr fl3.2.2.1 he3 hd3
    have nL : a ≠ X.env.locals := fun z => nfr (List.mem_filterMap.mpr ⟨X.env, List.mem_cons_self, by rw [hf, z]⟩)
    have nF : a ∉ X.fs := fun hm => by
      obtain ⟨e, he, q⟩ := List.mem_filterMap.mp hm
      exact nfr (List.mem_filterMap.mpr ⟨e, List.mem_cons_of_mem _ he, q⟩)
    have S3 := J3.suite he3 hd3 na nL nF
    have go : ∀ {hds' : List ExceptHandler} {l' : List (Value × Nat × (Addr → Value → Option Addr → TS))}, HdsAs X hds' l' → wManyAs X.K Wout D l' cls d σ' H' →
        wpAny (model X.prog X.w) X.A (handleBy (.ref a) X.env hds') (SP X pins D) X.xe { s' with heap := h3 } := by
      intro hds' l' hk
      induction hk with
      | nil =>
        intro w
        refine wpAny_handleBy_nil ?_
        obtain ⟨k1, k2, k3, oe, vs, T, oT, ts', he, hz, hd, h1, hr⟩ := id fl3
        unfold PySem.passOn
        refine wpAny_bind (wpAny_field he hd h1 ?_)
        rw [if_neg (show ¬ ((Value.ref T == Value.none) = true) from by simp)]
        have fin : wpAny (model X.prog X.w) X.A (setFlight (.ref a) X.env.frame) (fun _ s4 => wpAny (model X.prog X.w) X.A (throw (.ref a) : Sem Flow) (SP X pins D) X.xe s4) X.xe { s' with heap := h3 } := by
          rw [hf]
          refine HandSPX.setFlight_upZ fl3 fun h4 hh4 up4 => wpAny_throw (tk _ _ ?_)
          exact ⟨a, B, sI, pins, σ', H', cls, d, rfl, J, nb, (up.trans up3).trans up4, .inr (.inr (by rw [hs]; exact hh4)), na, os, ag, w⟩
        first
          | exact wpAny_bind (wpAny_pure (wpAny_bind fin))
          | exact wpAny_bind fin
      | @cons x n c i ts b₀ suite np pos' hds2 l2 hi hln hc hsu r ih =>
        intro w
        obtain ⟨b, hb1, hyes, hno⟩ := w
        refine wpAny_handleBy_cons (codeAny_handlers_test ?_) (by intro q; cases q)
        have LT : PySem.W.Looks (model X.prog X.w) h3 (typeOf (.ref a)) cls := fun A Q E s k q => wpAny_typeOf_ref (k _ _ he3) (by rw [hz3.1]; exact q)
        have LM := PySem.W.exm_one (M := model X.prog X.w) (J3.kIn) LT hb1
        have test : ∀ {Q : Value → Shared → Prop} {E : Value → Shared → Prop}, Q c { s' with heap := h3 } → wpAny (model X.prog X.w) (X.A.mark (some (.ref a))) (eval (.Name x np) X.env) Q E { s' with heap := h3 } := fun {Q E} q => by
          obtain ⟨hg, hdbg, hm | ⟨hm, hv, hnn⟩⟩ := hc
          · exact ld_glob (X := X.suite a ((a, oe3) :: (X.pn ++ pins))) S3 hg hm q hdbg
          · exact ld_blt (X := X.suite a ((a, oe3) :: (X.pn ++ pins))) S3 hg hm hv q hnn hdbg
        refine test (LM.here ?_)
        cases b with
        | true =>
          refine codeAny_handlers_suite_as ?_
          refine HandSPX.lands_againZ fl3 fun h4 fl4 up4 => ?_
          have J4 : Inv X pins σ' H' { s' with heap := h4 } := J.landed nb fl4.1 ((up.trans up3).trans up4) os ag
          obtain ⟨oe4, vs4, he4, hz4, hd4⟩ := fl4.there
          have S4 := J4.suite he4 hd4 na nL nF
          refine store_ok (X := X.suite a ((a, oe4) :: (X.pn ++ pins))) (v := .ref a) S4 hN hi (.inl hln) rfl (fun s5 S5 => ?_) (.inr hln)
          refine wpAny_mono ((hsu a oe4 cls d (X.pn ++ pins) hz4 ⟨_, hd4⟩).run [] s5 _ H' _ S5 (hyes rfl (by rw [J.len]; exact (List.getElem?_eq_some_iff.mp hi).1) a na)) (fun f s6 hsp => ?_) (fun _ _ z => False.elim z)
          have end_ : ∀ {σ6 : St} {H6 : Hp} {Q : Shared → Prop}, Inv (X.suite a ((a, oe4) :: (X.pn ++ pins))) [] σ6 H6 s6 → (∀ s7, Inv X pins (σ6.set i none) H6 s7 → Q s7) →
              wpAny (model X.prog X.w) X.A (do bindName X.env n .none; unbindBehindTheSuite X.env n pos') (fun _ s7 => Q s7) X.xe s6 := fun {σ6 H6 Q} S6 hq => gone_ok (S6.unsuite ok) hN hi hln hq
          cases f with
          | next =>
            obtain ⟨σ6, H6, S6, q6⟩ := hsp
            exact end_ S6 fun s7 J7 => ⟨_, _, J7, q6⟩
          | brk =>
            obtain ⟨σ6, H6, S6, q6⟩ := hsp
            exact end_ S6 fun s7 J7 => ⟨_, _, J7, q6⟩
          | cont =>
            obtain ⟨σ6, H6, S6, q6⟩ := hsp
            exact end_ S6 fun s7 J7 => ⟨_, _, J7, q6⟩
          | ret u =>
            obtain ⟨v6, σ6, H6, S6, r6, q6⟩ := hsp
            exact end_ S6 fun s7 J7 => ⟨_, _, _, J7, r6, q6⟩
        | false =>
          show wpAny _ X.A (handleBy (.ref a) X.env hds2) _ _ _
          exact ih (hno rfl)
    exact go hh w
  · cases f with
    | next =>
      obtain ⟨σ', H', J', q⟩ := hsp
      exact wpAny_execs_nil ⟨σ', H', J'.ofTry ok, q⟩
    | brk =>
      obtain ⟨σ', H', J', q⟩ := hsp
      exact ⟨σ', H', J'.ofTry ok, q⟩
    | cont =>
      obtain ⟨σ', H', J', q⟩ := hsp
      exact ⟨σ', H', J'.ofTry ok, q⟩
    | ret u =>
      obtain ⟨v, σ', H', J', r, q⟩ := hsp
      exact ⟨v, σ', H', J'.ofTry ok, r, q⟩
end
end Sim


/-! Sim, part Z: isinstance of a caught error that has a dict; a lambda handed to a def that tries it. -/
namespace PySem.W
open PySem PySem.Spec PySem.Calls PyProof.Rows
section
variable {prog : Program} {w : World} {A : Around} {E : Value → Shared → Prop} {s : Shared} {K : Frag} {x D : Addr} {ox : Obj} {od : Option Obj}
theorem findObj_dataO {C : Addr} {od : Option Obj} {name : Str} {a g : Value} (hc : (clsIn K C).isSome = true) (ha : findIn K (.ref C) name = some (some a)) (hg : specialIn K a "__get__" = some (some g)) (ht : takesIn K a = some true) : findObj K C od name = some (.bind g a) := by
  obtain ⟨cd, hc⟩ := Option.isSome_iff_exists.mp hc
  unfold findObj
  rw [hc, Option.bind_some, ha, Option.bind_some]
  simp [hg, ht]
/-- x.__class__ of an own error, with a dict or without -/
theorem kin_classO {Q : Option Value → Shared → Prop} (C : L2.ExcC K D) (X : K.In s.heap) (I : InstAt s.heap x ox D od) (h : Q (some (.ref D)) { s with toks := s.toks + 1 }) : wpAny (model prog w) A (getAttr? (.ref x) "__class__") Q E s := by
  have hf : findObj K D od "__class__" = some (.bind (.builtin "getset_descriptor.__get__") (.builtin "object.__class__")) := findObj_dataO (by obtain ⟨cd, hc, _⟩ := any_some C.hd; rw [hc]; rfl) C.ha C.hn C.ht
  obtain ⟨hp, g, d, t, os⟩ := s
  have L0 := I.type (M := model prog w)
  have sub : Looks (model prog w) hp (isInstance (.ref x) (.type "BaseException")) true := L0.andThen (looks_subIn X C.hs)
  have no : (Value.builtin "BaseException.__getattribute__" == Value.builtin "object.__getattribute__") = false := by decide +kernel
  unfold getAttr? getAttrBy? getAttrBy
  refine wpAny_bind (wpAny_mkText (wpAny_bind (wpAny_attempt (wpAny_holding (wpAny_bind (L0.at (wpAny_bind ((looks_findIn (M := model prog w) X C.hg).at ?_))))))))
  show wpAny _ _ (if (onTheHeap (Value.ref D) && Value.builtin "BaseException.__getattribute__" == Value.builtin "object.__getattribute__") = true then _ else _) _ _ _
  rw [show (onTheHeap (Value.ref D) && Value.builtin "BaseException.__getattribute__" == Value.builtin "object.__getattribute__") = false by rw [no]; rfl, if_neg Bool.false_ne_true]
  unfold getAttrByItsOwn hookBefore
  refine wpAny_bind ?_
  rw [if_pos (show onTheHeap (Value.ref D) = true from rfl)]
  refine (looks_findIn (M := model prog w) X C.hk).at ?_
  refine wpAny_bind (wpAny_attempt (wpAny_holding ?_))
  unfold callGetattribute
  rw [show (false && onTheHeap (Value.builtin "BaseException.__getattribute__")) = false from rfl, if_neg Bool.false_ne_true]
  unfold boundAndCalled
  rw [PySem.F.excAttr_ValueError.ga.bind (.ref x)]
  refine wpAny_bind (wpAny_pure ?_)
  show wpAny _ _ (call (.builtin "BaseException.__getattribute__") [.ref x, .str "__class__" t]) _ _ _
  refine wpAny_call (codeAny_call_builtin PySem.F.excAttr_ValueError.ga.plain PySem.F.entry_bexc_ga ?_)
  refine @check_slot (model prog w) _ _ ⟨hp, g, d, t + 1, os⟩ "BaseException.__getattribute__" "BaseException" "__getattribute__" (.ref x) [.str "__class__" t] [] _ (by decide +kernel) (by decide +kernel) sub (PySem.F.args_bexc_ga (.ref x) (.str "__class__" t)) ?_
  unfold Builtin.«object.__getattribute__»
  refine wpAny_bind (wpAny_of_eq (a := ((Value.ref x : Value), [Value.str "__class__" t])) (by first | rfl | (simp only [slotArgs]; rfl)) ?_)
  refine wpAny_bind (wpAny_pure (wpAny_bind (L0.at (wpAny_bind ((looks_find (M := model prog w) X I hf).at ?_)))))
  show wpAny _ _ (holding [Value.builtin "object.__class__"] (call (.builtin "getset_descriptor.__get__") [.builtin "object.__class__", .ref x, .ref D]) >>= ret) _ _ _
  refine wpAny_bind (wpAny_holding (wpAny_call (class_get (s := ⟨hp, g, d, t + 1, os⟩) (ox := ox) (od := od) X I C.hm ?_)))
  refine wpAny_pure ?_
  show wpAny _ _ (handedOut (.ref D)) _ _ _
  rw [handedOut_of (v := .ref D) rfl]
  first
    | exact wpAny_pure (wpAny_pure h)
    | exact wpAny_pure h
    | exact wpAny_pure (wpAny_bind (wpAny_pure (wpAny_pure h)))
theorem kitxO (C : L2.ExcC K D) : KitX K (.ref x) (.ref D) (fun h => InstAt h x ox D od) where
  ty := fun _ _ _ I => I.type
  it := fun _ _ X _ => by
    obtain ⟨cdD, hcD, _⟩ := any_some C.hd
    unfold clsIn at hcD
    split at hcD
    · rename_i c' d' cd' sl' ho
      intro A' Q' E' s' k q
      unfold isType loadHead
      exact wpAny_bind (wpAny_loadPart (k _ _ (X _ _ ho)) (wpAny_pure q))
    · cases hcD
  ne := fun h tp dd its n sl X htp => by
    obtain ⟨cdD, hcD, _⟩ := any_some C.hd
    refine Bool.eq_false_iff.mpr fun q => ?_
    have e : D = tp := Value.ref.inj (beq_iff_eq.mp q)
    subst e
    unfold clsIn at hcD
    split at hcD
    · rename_i c' d' cd' sl' ho
      have z := (X _ _ ho).symm.trans htp
      cases z
    · cases hcD
  ca := fun X I k => kin_classO C X I k
end
end PySem.W
namespace Sim
open PySem PySem.Spec PyProof.Rows L2 LamX
/-- isinstance(e, c), e the caught error, dd its dict -/
def rIsD (K : PySem.W.Frag) (D a dd : Addr) : List V → Hp → VK → Prop := fun xs H Q => ∃ (c : V) (cv : Value) (b : Bool) (fs : List (Str × V)), xs = [.ref a, c] ∧ (∀ u, RelV c u → u = cv) ∧ PySem.W.kitOne K (.ref D) cv = some b ∧ H dd = some (.xd fs) ∧ Q (.bl b) H
theorem call_isD {X : Cx} {a D dd : Addr} {oe : Obj} {pn : List (Addr × Obj)} (C : ExcC X.K D) (hz : Zc (.ref D) (some dd) oe) (hf : ∃ vs, oe.data = .fields vs) : CallR (X.suite a ((a, oe) :: pn)) (.builtin "isinstance") (rIsD X.K D a dd) := by
  intro pins s σ H xs us Q I r h
  obtain ⟨c, cv, b, fs, rfl, hcv, e, hdd, q⟩ := h
  cases r with
  | cons rx rr =>
    cases rr with
    | cons rt rr =>
      cases rr
      cases rx
      have ec := hcv _ rt
      subst ec
      obtain ⟨hget, _⟩ := I.pin (a, oe) (List.mem_append.mpr (.inl List.mem_cons_self))
      obtain ⟨vs, hv⟩ := hf
      have hx : ObjOk X.prog X.w H s.heap dd (.xd fs) := I.hok dd _ hdd
      obtain ⟨mA, hns, hr⟩ := hx
      obtain ⟨od, ho, hl⟩ := lookIn_ns hns
      have J : PySem.W.InstAt s.heap a oe D (some od) := ⟨hget, hz.1, by unfold PySem.W.notCls; rw [hv] <;> rfl, by rw [hz.2]; exact ho⟩
      exact PySem.W.kia_one (PySem.W.kitxO C) I.kIn J e (fun z => nomatch z) fun tk => ⟨.bl b, H, I.kept (t' := tk) fun _ _ z => z, rfl, q⟩
/-! ### the suite «return (tag, e.thing, isinstance(e, Y))» -/
def thTS (C : Addr) (tag : Str) : Addr → Value → Option Addr → TS := fun a cls d D σ H => cls = .ref C ∧ ∃ (dd : Addr) (fs : List (Str × V)) (v : V), d = some dd ∧ H dd = some (.xd fs) ∧ fs.lookup ("thing" : Str) = some v ∧ σ[1]? = some (some (.ref a)) ∧ ∀ p, H p = none → D.rt (.ref p) (upd H p (.tup [.str tag, v, .bl true]))
/-- what an error class must say, so that a clause may look at it: Y the class above it -/
structure ErrC (K : PySem.W.Frag) (Y C : Addr) : Prop where
  is : ExcC K C
  xf : XfC K C
  no : PySem.W.findIn K (.ref C) "thing" = some none
  up : PySem.W.kitOne K (.ref C) (.ref Y) = some true
theorem two_le : 2 ≤ sizeLine := by rw [sizeLine_eq]; decide
theorem three_le : 3 ≤ sizeLine := by rw [sizeLine_eq]; decide
theorem th_suite {X : Cx} {C Y : Addr} {tag n y : Str} {j k : Nat} {p1 p2 p3 p4 p5 p6 p7 p8 p9 : Pos} (T : ErrC X.K Y C) (hn : X.N[1]? = some n) (hv : Vis X.env.scope n) (hg : Gl X y) (hm : X.mg y = some (.ref Y)) (hgi : Gl X "isinstance") (hmi : X.mg "isinstance" = none)
    (hd : (n == ("__debug__" : Str)) = false) (hcd : (n == ("__classdict__" : Str)) = false) (hyd : (y == ("__debug__" : Str)) = false)
    (a : Addr) (oe : Obj) (cls : Value) (d : Option Addr) (pn : List (Addr × Obj)) (hz : Zc cls d oe) (hf : ∃ vs, oe.data = .fields vs) :
    PSs (X.suite a ((a, oe) :: pn)) [.Return (some (.Tuple [.Constant (.str tag) j p1, .Attribute (.Name n p2) "thing" p3, .Call (.Name "isinstance" p4) [.Name n p5, .Name y p6] [] p7] k p8)) p9] (thTS C tag a cls d) := by
  refine ⟨fun pins s σ H D I h => ?_⟩
  obtain ⟨rfl, dd, fs, v, rfl, hdd, hl, hs, q⟩ := h
  have var : ∀ {p : Pos}, PE (X.suite a ((a, oe) :: pn)) (.Name n p) (tVar 1) := pe_var (X := X.suite a ((a, oe) :: pn)) hn hv hd hcd
  have h1 := pe_xf (pos := p3) T.xf T.no hz hf (var (p := p2)) rfl
  have h2 := pe_callB (p := p4) (pos := p7) (call_isD T.is hz hf) hgi hmi (by decide +kernel) (pa_cons (var (p := p5)) (pa_cons (pe_glob (X := X.suite a ((a, oe) :: pn)) (x := y) (pos := p6) (v := .ref Y) (u := .ref Y) hg hm rfl hyd) pa_nil rfl) rfl) (by decide) (by decide) rfl rfl
  refine (pss_one (ps_ret (pe_tup (pa_cons pe_str (pa_cons h1 (pa_cons h2 pa_nil rfl) rfl) rfl)))).run pins s σ H D I ?_
  refine ⟨.ref a, hs, rfl, rfl, dd, fs, v, rfl, hdd, hl, .ref a, hs, ?_⟩
  exact ⟨.ref Y, .ref Y, true, fs, rfl, fun u r => r, T.up, hdd, three_le, q⟩
/-- told, or the error that the first fitting clause tells -/
def tTried (told : Str) (hs : List (Addr × Str)) : (XK → Hp → VK → Prop) → Hp → VK → Prop := fun tl H Q =>
  tl (fun cls d H' => ∃ (C dd : Addr) (fs : List (Str × V)) (v : V) (tag : Str), cls = .ref C ∧ d = some dd ∧ H' dd = some (.xd fs) ∧ fs.lookup ("thing" : Str) = some v ∧ hs.lookup C = some tag ∧ ∀ p, H' p = none → Q (.ref p) (upd H' p (.tup [.str tag, v, .bl true])))
    H (fun v H1 => [V.str told, v].length ≤ sizeLine ∧ ∀ p, H1 p = none → Q (.ref p) (upd H1 p (.tup [.str told, v])))
/-- the clauses, one after another -/
inductive HdsTold (X : Cx) (Y : Addr) (y n : Str) : List ExceptHandler → List (Addr × Str) → Prop
  | nil : HdsTold X Y y n [] []
  | cons {x tag : Str} {C : Addr} {j k : Nat} {p1 p2 p3 p4 p5 p6 p7 p8 p9 np pos' : Pos} {hds : List ExceptHandler} {l : List (Addr × Str)} (T : ErrC X.K Y C) (hc : Names X x (.ref C)) (r : HdsTold X Y y n hds l) :
      HdsTold X Y y n (.ExceptHandler (some (.Name x np)) (some n) [.Return (some (.Tuple [.Constant (.str tag) j p1, .Attribute (.Name n p2) "thing" p3, .Call (.Name "isinstance" p4) [.Name n p5, .Name y p6] [] p7] k p8)) p9] pos' :: hds) ((C, tag) :: l)
theorem HdsTold.as {X : Cx} {Y : Addr} {y n : Str} {hds : List ExceptHandler} {l : List (Addr × Str)} (h : HdsTold X Y y n hds l) (hn : X.N[1]? = some n) (hln : X.env.kindOf n = some .local) (hv : Vis X.env.scope n) (hg : Gl X y) (hm : X.mg y = some (.ref Y)) (hgi : Gl X "isinstance") (hmi : X.mg "isinstance" = none)
    (hd : (n == ("__debug__" : Str)) = false) (hcd : (n == ("__classdict__" : Str)) = false) (hyd : (y == ("__debug__" : Str)) = false) : HdsAs X hds (l.map fun p => (.ref p.1, 1, thTS p.1 p.2)) := by
  induction h with
  | nil => exact .nil
  | cons T hc r ih => exact .cons hn hln hc (fun a oe cls d pn hz hf => th_suite T hn hv hg hm hgi hmi hd hcd hyd a oe cls d pn hz hf) ih
theorem lookup_in {C : Addr} {tag : Str} : ∀ hs : List (Addr × Str), hs.lookup C = some tag → (C, tag) ∈ hs
  | [], h => by cases h
  | (C', t') :: r, h => by
    rw [List.lookup_cons] at h
    by_cases e : C = C'
    · subst e
      simp at h
      subst h
      exact List.mem_cons_self
    · have : (C == C') = false := by simpa using e
      rw [this] at h
      exact List.mem_cons_of_mem _ (lookup_in r h)
/-- the clauses' classes are none of one another -/
def Apart (K : PySem.W.Frag) (hs : List (Addr × Str)) : Prop := ∀ p ∈ hs, ∀ q ∈ hs, PySem.W.exmOne K (.ref p.1) (.ref q.1) = some (p.1 == q.1)
theorem wMany_told {K : PySem.W.Frag} {Wout : WX} {D : Ends} {C dd : Addr} {fs : List (Str × V)} {v : V} {tag : Str} {σ : L2.St} {H : Hp} (hdd : H dd = some (.xd fs)) (hl : fs.lookup ("thing" : Str) = some v) (q : ∀ p, H p = none → D.rt (.ref p) (upd H p (.tup [.str tag, v, .bl true]))) :
    ∀ hs : List (Addr × Str), (∀ q ∈ hs, PySem.W.exmOne K (.ref C) (.ref q.1) = some (C == q.1)) → hs.lookup C = some tag → wManyAs K Wout D (hs.map fun p => (.ref p.1, 1, thTS p.1 p.2)) (.ref C) (some dd) σ H
  | [], _, h => by cases h
  | (C', tag') :: r, hx, h => by
    refine ⟨_, hx _ (List.mem_cons_self ..), fun hb hlt a ha => ?_, fun hb => wMany_told hdd hl q r (fun q hq => hx q (List.mem_cons_of_mem _ hq)) ?_⟩
    · have e : C = C' := by simpa using hb
      subst e
      rw [List.lookup_cons_self] at h
      cases h
      exact ⟨rfl, dd, fs, v, rfl, hdd, hl, List.getElem?_set_self hlt, q⟩
    · rw [List.lookup_cons] at h
      dsimp only at hb
      rw [hb] at h
      exact h
theorem tried_gives {X : Cx} {Ng : List Str} {x a q told y n : Str} {sg : Scope} {g Y : Addr} {cdg : Value} {j k : Nat} {h₀ : ExceptHandler} {hds : List ExceptHandler} {hs : List (Addr × Str)} {p1 p2 p3 p4 p5 p6 : Pos} (hap : Apart X.K hs)
    (hh : ∀ (s : Shared) (H : Hp), HdsTold (cxOf C8.CX0 X.prog X.w X.K X.mg X.base Ng x sg g cdg X.A X.stack s H C8.E0).nox Y y n (h₀ :: hds) hs) (hN : Ng.Nodup) (h0 : ∀ f : Addr, (L2.start Ng [V.ref f])[0]? = some (some (V.ref f)))
    (hn : Ng[1]? = some n) (hln : sg.names.lookup n = some .local) (hg : sg.names.lookup y = some .globalImplicit) (hm : X.mg y = some (.ref Y)) (hgi : sg.names.lookup ("isinstance" : Str) = some .globalImplicit) (hmi : X.mg "isinstance" = none)
    (hd : (n == ("__debug__" : Str)) = false) (hcd : (n == ("__classdict__" : Str)) = false) (hyd : (y == ("__debug__" : Str)) = false) :
    GivesTo X Ng x sg g cdg [.Try [.Return (some (.Tuple [.Constant (.str told) j p1, .Call (.Name a p2) [] [] p3] k p4)) p5] (h₀ :: hds) [] [] p6] a q (tTried told hs) := by
  intro f c' s H Q tl act hc h
  have hds' := (hh s H).as (X := (cxOf C8.CX0 X.prog X.w X.K X.mg X.base Ng x sg g cdg X.A X.stack s H C8.E0).nox) hn hln (.inl hln) hg hm hgi hmi hd hcd hyd
  refine ⟨_, pss_one (ps_try_manyAs (X := (cxOf C8.CX0 X.prog X.w X.K X.mg X.base Ng x sg g cdg X.A X.stack s H C8.E0).nox)
      (tb := fun W D σ H => ∃ Ech : XK, (∀ cls d σ' H', Ech cls d H' → W cls d σ' H') ∧ σ[0]? = some (some (.ref f)) ∧ H c' = some (CodeO c' q) ∧ tl Ech H (fun v H1 => [V.str told, v].length ≤ sizeLine ∧ ∀ p, H1 p = none → D.rt (.ref p) (upd H1 p (.tup [.str told, v]))))
      rfl rfl hN L2.takes0 (fun W pn xe tk _ => ?_) hds'), ?_⟩
  · refine ⟨fun pins s' σ H' D I h' => ?_⟩
    obtain ⟨Ech, hW, h1, h2, h3⟩ := h'
    have hp := act W pn xe Ech p2 p3 tk hW
    have hq := pss_one (ps_ret (pos := p5) (pe_tup (x1 := k) (pos := p4) (pa_cons (pe_str (pos := p1) (j := j) (x := told)) (pa_cons hp pa_nil rfl) rfl)))
    exact hq.run pins s' σ H' D I ⟨h1, h2, h3⟩
  · refine ⟨_, fun cls d σ' H' hx => ?_, h0 f, hc, h⟩
    obtain ⟨C, dd, fs, v, tag, rfl, rfl, e1, e2, e3, e4⟩ := hx
    exact wMany_told (D := { nx := fun _ H' => Q .non H', rt := Q }) e1 e2 e4 hs (fun q hq => by
      have : ∃ t, (C, t) ∈ hs := ⟨tag, lookup_in hs e3⟩
      obtain ⟨t, ht⟩ := this
      exact hap _ ht _ hq) e3
/-! ### the rule over trees -/
def dTried (told : Str) (hs : List (Addr × Str)) (t : TED) : TED := fun _ sl cs Q =>
  t (fun C d cs1 => ∃ tag, hs.lookup C = some tag ∧ Q (.tup [.str tag, d, .bl true]) cs1) sl cs fun d cs1 => Q (.tup [.str told, d]) cs1
/-- the body's context -/
abbrev lamB (B : Bx) (A : Around) (outer : List Env) (s : Shared) (H : Hp) (E : XK) (scope : Scope) (f c' : Addr) (w : W0) : Bx := ⟨lamCx B.X A outer s H E scope f c', B.T, w, E⟩
theorem good_lam {G : Gx} {j k : Nat} {B : Bx} {A : Around} {outer : List Env} {s : Shared} {H : Hp} {E : XK} {scope : Scope} {f c' : Addr} {w : W0} (g : Good G j B) (hr : Room k (lamB B A outer s H E scope f c' w).X.A) (hp : B.X.prog = G.P) : Good G k (lamB B A outer s H E scope f c' w) :=
  ⟨⟨g.ing.P, g.ing.w, g.ing.K, g.ing.mg, g.ing.base, g.ing.T⟩, rfl, g.nd, hr, by
    have e1 := g.ing.P
    have e2 := g.ing.w
    exact passes_call (takes_of rfl rfl rfl (by rfl)) fun _ _ _ _ h => h⟩
theorem simE_tried {B : Bx} {told : Str} {hs : List (Addr × Str)} {t : TED} {x a : Str} {g c P : Addr} {k : Nat} {pg : Arguments} {bg : List Stmt} {sg : Scope} {dV kV doc pm cdv ct oc : Value} {an od : Option Addr} {osl : Array (Option Value)} {Ng : List Str}
    {params : Arguments} {body : Expr} {scope : Scope} {p lpos pos : Pos} (hg : Gl B.X x) (hm : B.X.mg x = some (.ref g)) (hk : PySem.W.keepIn B.X.K (.ref g) = true)
    (lk : B.X.K.lookup g = some ⟨oc, od, .func (PySem.W.fnOf x x pg bg sg dV kV doc pm an cdv ct), osl⟩) (hcg : PySem.W.codeIn B.X.K cdv x = true) (hb : L2.Binds B.X.K (PySem.W.fnOf x x pg bg sg dV kV doc pm an cdv ct) [a] []) (Sg : FnScope Ng [a] sg) (hNg : Ng[0]? = some a) (hva : Vis sg a)
    (hG : GivesTo B.X Ng x sg g cdv bg a (B.X.env.qual ++ "<lambda>") (tTried told hs))
    (TB : TabB B.X.base B.X.mg c P) (hcode : B.X.env.code = .ref c) (hmT : (P, B.X.env.qual ++ "<lambda>") ∈ B.T) (hu : ∀ p ∈ B.T, p.1 = P → p.2 = B.X.env.qual ++ "<lambda>") (hr : Room (k + 2) B.X.A) (L : LamS B.X.env.scope scope) (hdef : defaultsOf params B.X.env = ([], []))
    (hbind : ∀ (q : Str) (cl : List (Str × Addr)) (pm cv ctv : Value), bindArgs (PySem.W.kla_fn "<lambda>" q params body scope cl pm cv ctv) ⟨[], []⟩ = pure [])
    (hbody : ∀ (A : Around) (outer : List Env) (s : Shared) (H : Hp) (E : XK) (f c' : Addr) (w : W0), Room k (A.deeper (lamEnv B.X scope s.heap.objs.size f c')) → SimE (lamB B A outer s H E scope f c' w) body t)
    (hdb : (x == ("__debug__" : Str)) = false := by decide) (hd : (a == ("__debug__" : Str)) = false := by decide) (hcd : (a == ("__classdict__" : Str)) = false := by decide) :
    SimE B (.Call (.Name x p) [.Lambda params body scope lpos] [] pos) (dTried told hs t) := by
  refine PE.to (pe_lamcall (T := B.T) (t := fun E σ H Q => ∃ w, liftE ⟨B.X, B.T, w, E⟩ t σ H Q) hg hm hk lk hcg hb Sg hNg hva hG TB hcode hmT hu hr L hdef hbind (fun A outer s H E f c' hr' => ⟨fun pins s1 σ1 H1 Q1 I1 ⟨w, h1⟩ => (hbody A outer s H E f c' w hr').run pins s1 σ1 H1 Q1 I1 h1⟩) hdb hd hcd) fun σ H Q ⟨F, m, cs, sl, Ex, P, A, X, h, k⟩ => ?_
  refine ⟨A.mem.tab, fun H1 e t1 => ?_⟩
  have M1 := A.mem.ext e t1
  have g1 : Grow F m H F m H1 := .ext e
  refine ⟨⟨F, m, H1⟩, F, m, cs, sl, _, _, ⟨M1, .refl, A.slr⟩, ?_, h, ?_⟩
  · intro C d cs' F' m' H' v dx ⟨tag, e1, e2⟩ M' g' r hd
    refine ⟨C, dx, _, v, tag, rfl, rfl, hd, rfl, e1, ?_⟩
    exact Cont.tup (fun F2 m2 H2 cs2 d2 v2 p2 M2 g2 r2 => k F2 m2 H2 cs2 d2 v2 p2 M2 ((g1.trans g').trans g2) r2) M' (.cons (by simp only [Rep]) (.cons r (.cons (by simp only [Rep]) .nil))) e2
  · intro F' m' H' cs' d v p M' g' r
    exact ⟨two_le, Cont.tup (fun F2 m2 H2 cs2 d2 v2 p2 M2 g2 r2 => k F2 m2 H2 cs2 d2 v2 p2 M2 ((g1.trans g').trans g2) r2) M' (.cons (by simp only [Rep]) (.cons r .nil)) p⟩
end Sim


/-! Sim, part L: list(zip(a, b)). -/
namespace ZipL
open PySem PySem.Spec PyProof.Rows
/-! ### one step of a zip over two lists or two tuples -/
/-- an iterator over a tuple (k), or over a list -/
def itK (k : Bool) (h : Heap) (it l : Addr) (i : Nat) : Prop := match k with | true => h.IsTupleIter it l i | false => h.IsListIter it l i
def seqK (k : Bool) (h : Heap) (l : Addr) (xs : Array Value) : Prop := match k with | true => h.IsTuple l xs | false => h.IsList l xs
theorem itK.at {k : Bool} {h h' : Heap} {it l : Addr} {i : Nat} (x : itK k h it l i) (e : ∀ o, h.get? it = some o → h'.get? it = some o) : itK k h' it l i := by
  cases k with
  | true => exact Heap.IsTupleIter.at x e
  | false => exact Heap.IsListIter.at x e
theorem seqK.at {k : Bool} {h h' : Heap} {l : Addr} {xs : Array Value} (x : seqK k h l xs) (e : ∀ o, h.get? l = some o → h'.get? l = some o) : seqK k h' l xs := by
  cases k with
  | true => obtain ⟨o, ho, r⟩ := x; exact ⟨o, e _ ho, r⟩
  | false => obtain ⟨o, ho, r⟩ := x; exact ⟨o, e _ ho, r⟩
section
variable {prog : Program} {w : World} {A : Around} {E : Value → Shared → Prop} {s : Shared}
theorem next_item {κ : Bool} {it l : Addr} {i : Nat} {items : Array Value} {x : Value} {Q : Value → Shared → Prop} (hit : itK κ s.heap it l i) (hl : seqK κ s.heap l items) (hx : items[i]? = some x)
    (hQ : ∀ h', itK κ h' it l (i + 1) → Heap.SameBut it s.heap h' → Q x { s with heap := h' }) : wpAny (model prog w) A (Builtin.SmallTypes.nextOf (.ref it)) Q E s := by
  cases κ with
  | true => exact RZ.nextOf_tuple_item hit hl hx hQ
  | false => exact wpAny_nextOf_list_item hit hl hx hQ
theorem next_end {κ : Bool} {it l : Addr} {i : Nat} {items : Array Value} {Q : Value → Shared → Prop} (hh : A.handled = none) (hit : itK κ s.heap it l i) (hl : seqK κ s.heap l items) (hx : items[i]? = none)
    (hE : ∀ h' e, Heap.ExtBut it s.heap h' → (∃ o, h'.get? e = some o ∧ o.cls = .type "StopIteration") → E (.ref e) { s with heap := h' }) : wpAny (model prog w) A (Builtin.SmallTypes.nextOf (.ref it)) Q E s := by
  cases κ with
  | true => exact RZ.nextOf_tuple_end hh hit hl hx hE
  | false => exact wpAny_nextOf_list_end hh hit hl hx hE
theorem zip_item_held {κ : Bool} {z TI TO T i1 i2 l1 l2 : Addr} {f : Bool} {oT : Obj} {k1 k2 : Nat} {xs ys : Array Value} {x y : Value} {Q : Option Value → Shared → Prop} (D : ZipApart z TI TO i1 i2 l1 l2)
    (hz : IsZipHeld s.heap z TI TO T f) (hT : s.heap.get? T = some oT) (hTI : IsPair s.heap TI (.ref i1) (.ref i2))
    (h1 : itK κ s.heap i1 l1 k1) (h2 : itK κ s.heap i2 l2 k2) (hl1 : seqK κ s.heap l1 xs) (hl2 : seqK κ s.heap l2 ys) (hx : xs[k1]? = some x) (hy : ys[k2]? = some y)
    (hQ : ∀ h', IsZipHeld h' z TI TO T true → itK κ h' i1 l1 (k1 + 1) → itK κ h' i2 l2 (k2 + 1) → IsPair h' s.heap.objs.size x y → h'.objs.size = s.heap.objs.size + 1 →
      (∀ c o, c ≠ z → c ≠ i1 → c ≠ i2 → s.heap.get? c = some o → h'.get? c = some o) → Q (some (.ref s.heap.objs.size)) { s with heap := h' }) :
    wpAny (model prog w) A (pyNext (.ref z)) Q E s := by
  have hTy : s.TypeIs (.ref z) "zip" := ⟨_, hz, rfl⟩
  unfold pyNext
  refine wpAny_bind (wpAny_attempt (wpAny_callSpecial?_slot (name := Str.ofString "__next__") hTy F.slot_zip_next
    (wpAny_call_entry F.slot_zip_next hTy F.entry_zip_next ?_ (F.args_zip_next_1 _))))
  show wpAny _ _ (field (.ref z) 2 >>= _) _ _ _
  refine wpAny_bind (wpAny_field hz rfl (x := .bool false) rfl ?_)
  show wpAny _ _ (field (.ref z) 3 >>= _) _ _ _
  refine wpAny_bind (wpAny_field hz rfl (x := .ref TI) rfl ?_)
  refine wpAny_bind (wpAny_seqItems hTI rfl ?_)
  show wpAny _ _ (Builtin.SmallTypes.ownedTupleIsFree (.ref z) >>= _) _ _ _
  refine wpAny_bind (wpAny_tupleHeld_zip hz hT fun h₁ hz₁ hs₁ => ?_)
  simp only [Bool.false_eq_true, if_false]
  refine wpAny_bind ?_
  rw [← Array.forIn_toList]
  simp only [List.forIn_cons, List.forIn_nil]
  refine wpAny_bind (wpAny_bind (wpAny_holding ?_))
  show wpAny _ _ (Builtin.SmallTypes.nextOf (.ref i1) >>= _) _ _ _
  refine wpAny_bind (next_item (κ := κ) (s := { s with heap := h₁ }) (h1.at fun o e => hs₁.extBut _ _ D.i1z e) (hl1.at fun o e => hs₁.extBut _ _ D.l1z e) hx fun h₂ h1₂ hs₂ => wpAny_pure ?_)
  refine wpAny_pure ?_
  refine wpAny_bind (wpAny_bind (wpAny_holding ?_))
  show wpAny _ _ (Builtin.SmallTypes.nextOf (.ref i2) >>= _) _ _ _
  refine wpAny_bind (next_item (κ := κ) (s := { s with heap := h₂ }) (h2.at fun o e => hs₂.extBut _ _ D.i12.symm (hs₁.extBut _ _ D.i2z e)) (hl2.at fun o e => hs₂.extBut _ _ D.l2i1 (hs₁.extBut _ _ D.l2z e)) hy fun h₃ h2₃ hs₃ => wpAny_pure ?_)
  refine wpAny_pure (wpAny_pure ?_)
  show wpAny _ _ (newTuple [x, y] >>= _) _ _ _
  refine wpAny_bind (wpAny_newTuple ?_)
  have hsz : h₃.objs.size = s.heap.objs.size := by rw [hs₃.1, hs₂.1, hs₁.1]
  have hz₃ : IsZipHeld h₃ z TI TO T true := hs₃.extBut _ _ D.i2z.symm (hs₂.extBut _ _ D.i1z.symm hz₁)
  have hk : ∀ c o, c ≠ z → c ≠ i1 → c ≠ i2 → s.heap.get? c = some o → h₃.get? c = some o := fun c o c1 c2 c3 e => hs₃.extBut _ _ c3 (hs₂.extBut _ _ c2 (hs₁.extBut _ _ c1 e))
  have h1₃ : itK κ h₃ i1 l1 (k1 + 1) := h1₂.at fun o e => hs₃.extBut _ _ D.i12 e
  refine wpAny_pure ⟨_, rfl, wpAny_pure ?_⟩
  show Q (some (.ref h₃.objs.size)) _
  have hp : IsPair (h₃.push { cls := .type "tuple", data := .seq #[x, y] }) h₃.objs.size x y := Heap.get?_push_size _ rfl
  have hz4 : (h₃.push { cls := .type "tuple", data := .seq #[x, y] }).objs.size = h₃.objs.size + 1 := Heap.size_push ..
  rw [hsz] at hp hz4 ⊢
  exact hQ _ (Heap.get?_push_of_some _ hz₃) (h1₃.at fun o e => Heap.get?_push_of_some _ e) (h2₃.at fun o e => Heap.get?_push_of_some _ e) hp hz4 fun c o c1 c2 c3 e => Heap.get?_push_of_some _ (hk c o c1 c2 c3 e)
theorem zip_end_held {κ : Bool} {z TI TO T i1 i2 l1 l2 : Addr} {f : Bool} {oT : Obj} {k1 k2 : Nat} {xs ys : Array Value} {Q : Option Value → Shared → Prop} (hh : A.handled = none) (D : ZipApart z TI TO i1 i2 l1 l2)
    (hz : IsZipHeld s.heap z TI TO T f) (hT : s.heap.get? T = some oT) (hTI : IsPair s.heap TI (.ref i1) (.ref i2))
    (h1 : itK κ s.heap i1 l1 k1) (h2 : itK κ s.heap i2 l2 k2) (hl1 : seqK κ s.heap l1 xs) (hl2 : seqK κ s.heap l2 ys) (hend : xs[k1]? = none ∨ ys[k2]? = none)
    (hQ : ∀ h', (∀ c o, c ≠ z → c ≠ i1 → c ≠ i2 → s.heap.get? c = some o → h'.get? c = some o) → Q none { s with heap := h' }) :
    wpAny (model prog w) A (pyNext (.ref z)) Q E s := by
  have hTy : s.TypeIs (.ref z) "zip" := ⟨_, hz, rfl⟩
  unfold pyNext
  have stop : ∀ (h' : Heap) (e : Addr), (∀ c o, c ≠ z → c ≠ i1 → c ≠ i2 → s.heap.get? c = some o → h'.get? c = some o) → (∃ o, h'.get? e = some o ∧ o.cls = .type "StopIteration") →
      wpAny (model prog w) A (do if (← isInstance (.ref e) (.type "StopIteration")) then pure none else throw (.ref e)) Q E { s with heap := h' } := fun h' e hk he => by
    obtain ⟨o, ho, hc⟩ := he
    refine wpAny_bind (wpAny_isInstance (T := "StopIteration") (b := true) ⟨o, ho, hc⟩ isSubtype_stop ?_)
    exact wpAny_pure (hQ _ hk)
  refine wpAny_bind (wpAny_attempt (wpAny_callSpecial?_slot (name := Str.ofString "__next__") hTy F.slot_zip_next
    (wpAny_call_entry F.slot_zip_next hTy F.entry_zip_next ?_ (F.args_zip_next_1 _))))
  show wpAny _ _ (field (.ref z) 2 >>= _) _ _ _
  refine wpAny_bind (wpAny_field hz rfl (x := .bool false) rfl ?_)
  show wpAny _ _ (field (.ref z) 3 >>= _) _ _ _
  refine wpAny_bind (wpAny_field hz rfl (x := .ref TI) rfl ?_)
  refine wpAny_bind (wpAny_seqItems hTI rfl ?_)
  show wpAny _ _ (Builtin.SmallTypes.ownedTupleIsFree (.ref z) >>= _) _ _ _
  refine wpAny_bind (wpAny_tupleHeld_zip hz hT fun h₁ hz₁ hs₁ => ?_)
  simp only [Bool.false_eq_true, if_false]
  refine wpAny_bind ?_
  rw [← Array.forIn_toList]
  simp only [List.forIn_cons, List.forIn_nil]
  refine wpAny_bind (wpAny_bind (wpAny_holding ?_))
  show wpAny _ _ (Builtin.SmallTypes.nextOf (.ref i1) >>= _) _ _ _
  cases hx : xs[k1]? with
  | none =>
    refine wpAny_bind (next_end (κ := κ) (s := { s with heap := h₁ }) hh (h1.at fun o e => hs₁.extBut _ _ D.i1z e) (hl1.at fun o e => hs₁.extBut _ _ D.l1z e) hx fun h₂ e hs₂ he => ?_)
    exact stop h₂ e (fun c o c1 c2 _ x => hs₂ _ _ c2 (hs₁.extBut _ _ c1 x)) he
  | some x =>
    have hy : ys[k2]? = none := by rcases hend with h | h; rw [hx] at h; cases h; exact h
    refine wpAny_bind (next_item (κ := κ) (s := { s with heap := h₁ }) (h1.at fun o e => hs₁.extBut _ _ D.i1z e) (hl1.at fun o e => hs₁.extBut _ _ D.l1z e) hx fun h₂ h1₂ hs₂ => wpAny_pure ?_)
    refine wpAny_pure ?_
    refine wpAny_bind (wpAny_bind (wpAny_holding ?_))
    show wpAny _ _ (Builtin.SmallTypes.nextOf (.ref i2) >>= _) _ _ _
    refine wpAny_bind (next_end (κ := κ) (s := { s with heap := h₂ }) hh (h2.at fun o e => hs₂.extBut _ _ D.i12.symm (hs₁.extBut _ _ D.i2z e)) (hl2.at fun o e => hs₂.extBut _ _ D.l2i1 (hs₁.extBut _ _ D.l2z e)) hy fun h₃ e hs₃ he => ?_)
    exact stop h₃ e (fun c o c1 c2 c3 x => hs₃ _ _ c3 (hs₂.extBut _ _ c2 (hs₁.extBut _ _ c1 x))) he
theorem zip_item_first {κ : Bool} {z TI TO i1 i2 l1 l2 : Addr} {k1 k2 : Nat} {xs ys : Array Value} {x y a b : Value} {Q : Option Value → Shared → Prop} (D : ZipApart z TI TO i1 i2 l1 l2)
    (hz : IsZip s.heap z TI TO .none) (hTI : IsPair s.heap TI (.ref i1) (.ref i2)) (hTO : IsPair s.heap TO a b)
    (h1 : itK κ s.heap i1 l1 k1) (h2 : itK κ s.heap i2 l2 k2) (hl1 : seqK κ s.heap l1 xs) (hl2 : seqK κ s.heap l2 ys) (hx : xs[k1]? = some x) (hy : ys[k2]? = some y)
    (hQ : ∀ h', IsZipHeld h' z TI TO s.heap.objs.size false → itK κ h' i1 l1 (k1 + 1) → itK κ h' i2 l2 (k2 + 1) → IsPair h' s.heap.objs.size x y → h'.objs.size = s.heap.objs.size + 1 →
      (∀ c o, c ≠ z → c ≠ TO → c ≠ i1 → c ≠ i2 → s.heap.get? c = some o → h'.get? c = some o) → Q (some (.ref s.heap.objs.size)) { s with heap := h' }) : wpAny (model prog w) A (pyNext (.ref z)) Q E s := by
  cases κ with
  | true => exact RZ.pyNext_zipT_item D hz hTI hTO h1 h2 hl1 hl2 hx hy fun h' a1 a2 a3 a4 a5 a6 a7 => hQ h' a1 a3 a4 a5 a6 a7
  | false => exact wpAny_pyNext_zip_item D hz hTI hTO h1 h2 hl1 hl2 hx hy fun h' a1 a2 a3 a4 a5 a6 a7 => hQ h' a1 a3 a4 a5 a6 a7
theorem zip_end_first {κ : Bool} {z TI TO i1 i2 l1 l2 : Addr} {k1 k2 : Nat} {xs ys : Array Value} {a b : Value} {Q : Option Value → Shared → Prop} (hh : A.handled = none) (D : ZipApart z TI TO i1 i2 l1 l2)
    (hz : IsZip s.heap z TI TO .none) (hTI : IsPair s.heap TI (.ref i1) (.ref i2)) (hTO : IsPair s.heap TO a b)
    (h1 : itK κ s.heap i1 l1 k1) (h2 : itK κ s.heap i2 l2 k2) (hl1 : seqK κ s.heap l1 xs) (hl2 : seqK κ s.heap l2 ys) (hend : xs[k1]? = none ∨ ys[k2]? = none)
    (hQ : ∀ h', (∀ c o, c ≠ z → c ≠ TO → c ≠ i1 → c ≠ i2 → s.heap.get? c = some o → h'.get? c = some o) → Q none { s with heap := h' }) : wpAny (model prog w) A (pyNext (.ref z)) Q E s := by
  cases κ with
  | true => exact RZ.pyNext_zipT_end hh D hz hTI hTO h1 h2 hl1 hl2 hend hQ
  | false => exact wpAny_pyNext_zip_end hh D hz hTI hTO h1 h2 hl1 hl2 hend hQ
theorem call_zipK {κ : Bool} {l1 l2 : Addr} {xs ys : Array Value} {Q : Value → Shared → Prop} (hl1 : seqK κ s.heap l1 xs) (hl2 : seqK κ s.heap l2 ys)
    (h : ∀ h', IsZip h' (s.heap.objs.size + 4) (s.heap.objs.size + 2) (s.heap.objs.size + 3) .none → IsPair h' (s.heap.objs.size + 2) (.ref s.heap.objs.size) (.ref (s.heap.objs.size + 1)) →
      IsPair h' (s.heap.objs.size + 3) .none .none → itK κ h' s.heap.objs.size l1 0 → itK κ h' (s.heap.objs.size + 1) l2 0 → h'.objs.size = s.heap.objs.size + 5 →
      (∀ c o, s.heap.get? c = some o → h'.get? c = some o) → Q (.ref (s.heap.objs.size + 4)) { s with heap := h' }) :
    wpAny (model prog w) A (call (.type "zip") [.ref l1, .ref l2]) Q E s := by
  cases κ with
  | true => exact RZ.call_zipT hl1 hl2 h
  | false => exact call_zip_2 hl1 hl2 h
theorem zip_nolen : typeLookup (.type "zip") "__len__" = pure none := by rw [typeLookup_type, builtinLookup_eq_fast]; kernel_rfl
theorem zip_nohint : typeLookup (.type "zip") "__length_hint__" = pure none := by rw [typeLookup_type, builtinLookup_eq_fast]; kernel_rfl
theorem zip_hint {z : Addr} {Q : Bool → Shared → Prop} (hT : s.TypeIs (.ref z) "zip") (h : Q true s) : wpAny (model prog w) A (Builtin.List.listLengthHint (.ref z)) Q E s := by
  unfold Builtin.List.listLengthHint
  refine wpAny_bind (wpAny_specialOf hT zip_nolen ?_)
  show wpAny _ A (specialOf (Value.ref z) (Str.ofString "__length_hint__") >>= _) _ _ _
  refine wpAny_bind (wpAny_specialOf hT zip_nohint ?_)
  exact wpAny_pure h
end
end ZipL


/-! Sim, part L2: list(zip(a, b)), the rule. -/
namespace ZipL
open PySem PySem.Spec PyProof.Rows L2
/-- a zip under way, its first tuple known or not -/
structure ZS (κ : Bool) (z TI TO i1 i2 a b q : Addr) (i : Nat) (h : Heap) : Prop where
  st : (IsZip h z TI TO .none ∧ ∃ x y, IsPair h TO x y) ∨ ∃ (T : Addr) (f : Bool) (oT : Obj), IsZipHeld h z TI TO T f ∧ h.get? T = some oT ∧ T ≠ q ∧ T ≠ z ∧ T ≠ i1 ∧ T ≠ i2
  ti : IsPair h TI (.ref i1) (.ref i2)
  h1 : itK κ h i1 a i
  h2 : itK κ h i2 b i
  sz : ∀ c ∈ [z, TI, TO, i1, i2], c < h.objs.size
/-- the pairs are made, one after the other -/
def zipRun (q : Addr) (Q : VK) : List (V × V) → List V → Hp → Prop
  | [], acc, H => Q (.ref q) H
  | (x, y) :: r, acc, H => ∀ T, H T = none → zipRun q Q r (acc ++ [.ref T]) (upd (upd H T (.tup [x, y])) q (.lst (acc ++ [.ref T])))
section
variable {X : Cx} {pins : List (Addr × Obj)} {σ : L2.St} {A1 : Around}
theorem zip_loop {κ : Bool} {z TI TO i1 i2 a b q : Addr} {its its2 : List Value} {xs ys : List V} {Q : VK} {Rs : Result → Shared → Prop} (D : ZipApart z TI TO i1 i2 a b) (hh : A1.in1.handled = none) (qf : q ∉ [z, TI, TO, i1, i2]) (aq : a ≠ q) (bq : b ≠ q) (aT : a ≠ TI) (bT : b ≠ TI)
    (rv : Vals xs its) (rv2 : Vals ys its2) (hz : xs.length ≤ sizeLine) (hdone : ∀ H s, Inv X pins σ H s → Q (.ref q) H → Rs (.ok (.ret .none)) s) :
    ∀ (n i : Nat) (acc : List V) (H : Hp) (s : Shared), its.length - i = n → acc.length = i → Inv X pins σ H s → (∀ c ∈ [z, TI, TO, i1, i2], FpOk X pins H c) → ZS κ z TI TO i1 i2 a b q i s.heap → seqK κ s.heap a its.toArray → seqK κ s.heap b its2.toArray →
      H q = some (.lst acc) → zipRun q Q ((xs.zip ys).drop i) acc H → codeAny (model X.prog X.w) A1 (.builtin "list.extend.loop" ⟨[.ref q, .ref z, .none], []⟩) Rs s := by
  have l1 := rv.length
  have l2 := rv2.length
  intro n
  induction n with
  | zero =>
    intro i acc H s hn hi I hf Z s1 s2 hq hr
    refine codeAny_builtin PySem.F.entry_extend_loop ?_
    rw [Around.under_plainId PySem.F.plain_extend_loop _]
    show wpAny _ A1.in1 (pyNext (.ref z) >>= _) _ _ s
    have he : its.toArray[i]? = none := by simp; omega
    have fin : ∀ h', (∀ c o, c ∉ [z, TI, TO, i1, i2] → s.heap.get? c = some o → h'.get? c = some o) → Rs (.ok (.ret .none)) { s with heap := h' } := fun h' k => hdone H _ (I.turnedL (t' := s.toks) k hf) (by
      have : (xs.zip ys).drop i = [] := List.drop_eq_nil_of_le (by rw [List.length_zip]; omega)
      rw [this] at hr
      exact hr)
    rcases Z.st with ⟨hz, x0, y0, hTO⟩ | ⟨T, f, oT, hz, hT, _⟩
    · exact wpAny_bind (zip_end_first hh D hz Z.ti hTO Z.h1 Z.h2 s1 s2 (.inl he) fun h' hk => wpAny_pure (fin h' fun c o hc e => hk c o (fun q => hc (by simp [q])) (fun q => hc (by simp [q])) (fun q => hc (by simp [q])) (fun q => hc (by simp [q])) e))
    · exact wpAny_bind (zip_end_held hh D hz hT Z.ti Z.h1 Z.h2 s1 s2 (.inl he) fun h' hk => wpAny_pure (fin h' fun c o hc e => hk c o (fun q => hc (by simp [q])) (fun q => hc (by simp [q])) (fun q => hc (by simp [q])) e))
  | succ n ih =>
    intro i acc H s hn hi I hf Z s1 s2 hq hr
    refine codeAny_builtin PySem.F.entry_extend_loop ?_
    rw [Around.under_plainId PySem.F.plain_extend_loop _]
    show wpAny _ A1.in1 (pyNext (.ref z) >>= _) _ _ s
    by_cases h2 : i < its2.length
    case neg =>
      have he : its2.toArray[i]? = none := by simp; omega
      have fin : ∀ h', (∀ c o, c ∉ [z, TI, TO, i1, i2] → s.heap.get? c = some o → h'.get? c = some o) → Rs (.ok (.ret .none)) { s with heap := h' } := fun h' k => hdone H _ (I.turnedL (t' := s.toks) k hf) (by
        have : (xs.zip ys).drop i = [] := List.drop_eq_nil_of_le (by rw [List.length_zip]; omega)
        rw [this] at hr
        exact hr)
      rcases Z.st with ⟨hz, x0, y0, hTO⟩ | ⟨T, f, oT, hz, hT, _⟩
      · exact wpAny_bind (zip_end_first hh D hz Z.ti hTO Z.h1 Z.h2 s1 s2 (.inr he) fun h' hk => wpAny_pure (fin h' fun c o hc e => hk c o (fun q => hc (by simp [q])) (fun q => hc (by simp [q])) (fun q => hc (by simp [q])) (fun q => hc (by simp [q])) e))
      · exact wpAny_bind (zip_end_held hh D hz hT Z.ti Z.h1 Z.h2 s1 s2 (.inr he) fun h' hk => wpAny_pure (fin h' fun c o hc e => hk c o (fun q => hc (by simp [q])) (fun q => hc (by simp [q])) (fun q => hc (by simp [q])) e))
    case pos =>
    have h1 : i < its.length := by omega
    obtain ⟨x, hx, rx⟩ : ∃ x, xs[i]? = some x ∧ RelV x its[i] := by
      have e : xs[i]? = some (xs[i]'(by omega)) := List.getElem?_eq_getElem _
      obtain ⟨u, eu, ru⟩ := rv.get e
      rw [List.getElem?_eq_getElem h1] at eu
      cases eu
      exact ⟨_, e, ru⟩
    obtain ⟨y, hy, ry⟩ : ∃ y, ys[i]? = some y ∧ RelV y its2[i] := by
      have e : ys[i]? = some (ys[i]'(by omega)) := List.getElem?_eq_getElem _
      obtain ⟨u, eu, ru⟩ := rv2.get e
      rw [List.getElem?_eq_getElem h2] at eu
      cases eu
      exact ⟨_, e, ru⟩
    have hlz : i < (xs.zip ys).length := by rw [List.length_zip]; omega
    have hd : (xs.zip ys).drop i = (x, y) :: (xs.zip ys).drop (i + 1) := by
      rw [List.drop_eq_getElem_cons hlz, List.getElem_zip]
      congr 2
      · have := (List.getElem?_eq_some_iff.mp hx).2; exact this
      · have := (List.getElem?_eq_some_iff.mp hy).2; exact this
    rw [hd] at hr
    have nT : H s.heap.objs.size = none := I.hok.fresh (Nat.le_refl _)
    have hqT : q ≠ s.heap.objs.size := ne_of_none hq nT
    -- after the step
    have step : ∀ (h' : Heap), (∀ c o, c ∉ [z, TI, TO, i1, i2] → s.heap.get? c = some o → h'.get? c = some o) → IsPair h' s.heap.objs.size its[i] its2[i] → h'.objs.size = s.heap.objs.size + 1 → ZS κ z TI TO i1 i2 a b q (i + 1) h' →
        wpAny (model X.prog X.w) A1.in1 (updateSeq q (·.push (.ref s.heap.objs.size)) >>= fun _ => again (.builtin "list.extend.loop" ⟨[.ref q, .ref z, .none], []⟩))
          (fun fin s' => match fin with | .done f => Rs (.ok f) s' | .again c' => c'.quiet = true ∧ codeAny (model X.prog X.w) A1 c' Rs s') (fun e s' => Rs (.error e) s') { s with heap := h' } := by
      intro h' hk hp hsz Z'
      have new : ObjOk X.prog X.w (upd H s.heap.objs.size (.tup [x, y])) h' s.heap.objs.size (.tup [x, y]) :=
        ⟨by show 2 ≤ sizeLine; decide, [its[i], its2[i]], .cons rx (.cons ry .nil), ⟨_, hp, rfl, _, rfl⟩⟩
      have I1 : Inv X pins σ (upd H s.heap.objs.size (.tup [x, y])) { s with heap := h' } := I.turnedNew (t' := s.toks) hk hf (Nat.le_refl _) new
      have hq1 : upd H s.heap.objs.size (.tup [x, y]) q = some (.lst acc) := by rw [upd_ne hqT]; exact hq
      obtain ⟨z', its', k, r2, hl, e⟩ := I1.lstM hq1
      refine wpAny_bind (wpAny_updateSeq e rfl (wpAny_pure ⟨plainId_quiet PySem.F.plain_extend_loop _, ?_⟩) (by rw [List.size_toArray]; omega) (by show (its'.toArray.push _).size ≤ sizeLine + 1; rw [Array.size_push, List.size_toArray]; omega))
      have oth : ∀ c o, c ≠ q → h'.get? c = some o → (h'.update q (Obj.mapSeq (·.push (.ref s.heap.objs.size)))).get? c = some o := fun c o hc e => (Heap.get?_update_other _ _ (Ne.symm hc)).trans e
      have nq : ∀ c ∈ [z, TI, TO, i1, i2], c ≠ q := fun c hc z => qf (z ▸ hc)
      refine ih (i + 1) (acc ++ [.ref s.heap.objs.size]) _ _ (by omega) (by rw [List.length_append, hi]; rfl)
        (I1.lset (its' := its' ++ [.ref s.heap.objs.size]) (t' := s.toks) hq1 e (by simp) (r2.append (.cons (show RelV (V.ref s.heap.objs.size) (Value.ref s.heap.objs.size) from rfl) .nil)) (by rw [List.length_append, List.length_singleton]; omega)) (fun c hc => ⟨?_, (hf c hc).2⟩) ?_ ?_ ?_ upd_same (hr _ nT)
      · rw [upd_ne (nq c hc)]
        rw [upd_ne (Nat.ne_of_lt (Z.sz c hc))]
        exact (hf c hc).1
      · refine ⟨?_, oth _ _ (nq _ (by simp)) Z'.ti, Z'.h1.at fun o e => oth _ _ (nq _ (by simp)) e, Z'.h2.at fun o e => oth _ _ (nq _ (by simp)) e, fun c hc => Nat.lt_of_lt_of_le (Z'.sz c hc) (Nat.le_of_eq (Heap.size_update ..).symm)⟩
        rcases Z'.st with ⟨hz, x0, y0, hTO⟩ | ⟨T, f, oT, hz, hT, n1, n2⟩
        · exact .inl ⟨oth _ _ (nq _ (by simp)) hz, x0, y0, oth _ _ (nq _ (by simp)) hTO⟩
        · exact .inr ⟨T, f, oT, oth _ _ (nq _ (by simp)) hz, oth _ _ n1 hT, n1, n2⟩
      · exact s1.at fun o e => oth _ _ aq (hk _ _ (by simp [D.l1z, D.l1TO, D.l1i1, D.l1i2, aT]) e)
      · exact s2.at fun o e => oth _ _ bq (hk _ _ (by simp [D.l2z, D.l2TO, D.l2i1, D.l2i2, bT]) e)
    rcases Z.st with ⟨hz, x0, y0, hTO⟩ | ⟨T, f, oT, hz, hT, n1, n2, n3, n4⟩
    · refine wpAny_bind (zip_item_first D hz Z.ti hTO Z.h1 Z.h2 s1 s2 (x := its[i]) (y := its2[i]) (by simp [h1]) (by simp [h2]) fun h' a1 a3 a4 a5 a6 a7 => ?_)
      have kk : ∀ c o, c ∉ [z, TI, TO, i1, i2] → s.heap.get? c = some o → h'.get? c = some o := fun c o hc e => a7 c o (fun q => hc (by simp [q])) (fun q => hc (by simp [q])) (fun q => hc (by simp [q])) (fun q => hc (by simp [q])) e
      refine step h' kk a5 a6 ⟨.inr ⟨_, false, _, a1, a5, hqT.symm, Nat.ne_of_gt (Heap.lt_size hz), ?_, ?_⟩, a7 _ _ D.TIz D.TITO D.TIi1 D.TIi2 Z.ti, a3, a4, fun c hc => by rw [a6]; exact Nat.lt_succ_of_lt (Z.sz c hc)⟩
      · have := Z.h1
        cases κ with
        | true => obtain ⟨o, ho, _⟩ := this; exact Nat.ne_of_gt (Heap.lt_size ho)
        | false => obtain ⟨o, ho, _⟩ := this; exact Nat.ne_of_gt (Heap.lt_size ho)
      · have := Z.h2
        cases κ with
        | true => obtain ⟨o, ho, _⟩ := this; exact Nat.ne_of_gt (Heap.lt_size ho)
        | false => obtain ⟨o, ho, _⟩ := this; exact Nat.ne_of_gt (Heap.lt_size ho)
    · refine wpAny_bind (zip_item_held D hz hT Z.ti Z.h1 Z.h2 s1 s2 (x := its[i]) (y := its2[i]) (by simp [h1]) (by simp [h2]) fun h' a1 a3 a4 a5 a6 a7 => ?_)
      have kk : ∀ c o, c ∉ [z, TI, TO, i1, i2] → s.heap.get? c = some o → h'.get? c = some o := fun c o hc e => a7 c o (fun q => hc (by simp [q])) (fun q => hc (by simp [q])) (fun q => hc (by simp [q])) e
      exact step h' kk a5 a6 ⟨.inr ⟨T, true, oT, a1, a7 _ _ n2 n3 n4 hT, n1, n2, n3, n4⟩, a7 _ _ D.TIz D.TIi1 D.TIi2 Z.ti, a3, a4, fun c hc => by rw [a6]; exact Nat.lt_succ_of_lt (Z.sz c hc)⟩
end
end ZipL


/-! Sim, part L3: list(zip(a, b)), over trees. -/
namespace ZipL
open PySem PySem.Spec PyProof.Rows L2
def rZipL (K : PySem.W.Frag) : List V → Hp → VK → Prop := fun vs H Q => ∃ (a b : Addr) (xs ys : List V), vs = [.ref a, .ref b] ∧ ((SqL K H a xs ∧ SqL K H b ys) ∨ (SqT K H a xs ∧ SqT K H b ys)) ∧
  ∀ q, H q = none → zipRun q Q (xs.zip ys) [] (upd H q (.lst []))
section
variable {X : Cx}
theorem seq_both {pins : List (Addr × Obj)} {σ : L2.St} {H : Hp} {s : Shared} {a b : Addr} {xs ys : List V} (I : Inv X pins σ H s) (h : (SqL X.K H a xs ∧ SqL X.K H b ys) ∨ (SqT X.K H a xs ∧ SqT X.K H b ys)) :
    ∃ (κ : Bool) (its its2 : List Value), Vals xs its ∧ Vals ys its2 ∧ seqK κ s.heap a its.toArray ∧ seqK κ s.heap b its2.toArray ∧ xs.length ≤ sizeLine ∧ a < s.heap.objs.size ∧ b < s.heap.objs.size := by
  rcases h with ⟨h1, h2⟩ | ⟨h1, h2⟩
  · obtain ⟨its, rv, p, z⟩ := I.list h1
    obtain ⟨its2, rv2, p2, _⟩ := I.list h2
    exact ⟨false, its, its2, rv, rv2, p.isList, p2.isList, z, p.lt, p2.lt⟩
  · obtain ⟨its, rv, p, z⟩ := I.tuple h1
    obtain ⟨its2, rv2, p2, _⟩ := I.tuple h2
    have t1 : s.heap.IsTuple a its.toArray := p
    have t2 : s.heap.IsTuple b its2.toArray := p2
    refine ⟨true, its, its2, rv, rv2, t1, t2, z, ?_, ?_⟩
    · obtain ⟨o, ho, _⟩ := t1; exact Heap.lt_size ho
    · obtain ⟨o, ho, _⟩ := t2; exact Heap.lt_size ho
/-- list(zip(a, b)) -/
theorem pe_listZip {e e2 : Expr} {ta : TA} {p p2 pos pos2 : Pos} (hc : X.calm = true) (hg : Gl X "list") (hm : X.mg "list" = none) (hg2 : Gl X "zip") (hm2 : X.mg "zip" = none) (ha : PA X [e, e2] ta)
    (hs : starEach [e, e2] X.env = (false, eval e X.env) :: starEach [e2] X.env := by rfl) (hpl : (backTo pos2 (starEach [e2] X.env)).any (·.1) = false := by rfl)
    (hs1 : starEach [.Call (.Name "zip" p2) [e, e2] [] pos2] X.env = [(false, eval (.Call (.Name "zip" p2) [e, e2] [] pos2) X.env)] := by rfl) :
    PE X (.Call (.Name "list" p) [.Call (.Name "zip" p2) [e, e2] [] pos2] [] pos) (tCB (rZipL X.K) ta) := by
  refine ⟨fun pins s σ H Q I h => ?_⟩
  refine wpAny_Call_Name_kw (ld_blt I hg hm (by decide +kernel : bootBuiltins "list" = some (.type "list")) ?_)
  refine PyProof.Rows.callWith_type1 ?_ hs1 rfl
  rw [hs1]
  show wpAny _ _ (spliced ((false, eval (.Call (.Name "zip" p2) [e, e2] [] pos2) X.env) :: [])) _ _ s
  refine Calls.spliced_cons ?_
  refine wpAny_Call_Name_kw (ld_blt I hg2 hm2 (by decide +kernel : bootBuiltins "zip" = some (.type "zip")) ?_)
  refine PyProof.Rows.callWith_type1 (thn (ha.run pos2 pins s σ H _ I h) fun us s1 ⟨vs, H1, I1, r1, q1⟩ => ?_) hs hpl
  obtain ⟨a, b, xs, ys, rfl, hseq, hq⟩ := q1
  cases r1 with
  | cons ra rr =>
  cases rr with
  | cons rb rr =>
  cases rr
  cases ra
  cases rb
  obtain ⟨κ, its, its2, rv, rv2, k1, k2, hz, la, lb⟩ := seq_both I1 hseq
  refine call_zipK k1 k2 fun h' z1 z2 z3 z4 z5 hsz hk => ?_
  have I2 : Inv X pins σ H1 { s1 with heap := h' } := I1.kept (t' := s1.toks) hk
  refine Calls.spliced_nil ?_
  have D := PySem.W.ktu_apart s1.heap.objs.size a b la lb
  generalize hI : s1.heap.objs.size = n0 at *
  have hT : ({ s1 with heap := h' } : Shared).TypeIs (.ref (n0 + 4)) "zip" := ⟨_, z1, rfl⟩
  refine callType_codes (Q₁ := fun obj s₁ => obj = .ref h'.objs.size ∧ s₁ = { s1 with heap := h'.push { cls := .type "list", data := .seq #[] } }) PySem.F.called_list (PySem.F.typeCall_list_1 _) PySem.F.entry_list_init
    (code_list_new _ ⟨rfl, rfl⟩) fun obj s₁ h₁ => ?_
  obtain ⟨rfl, rfl⟩ := h₁
  have hS : (h'.push { cls := .type "list", data := .seq #[] }).get? h'.objs.size = some { cls := .type "list", data := .seq #[] } := Heap.get?_push_size _ rfl
  refine ⟨⟨_, hS, rfl⟩, PySem.F.args_list_init_2 _ _, ?_⟩
  have fr : H1 h'.objs.size = none := I2.hok.fresh (Nat.le_refl _)
  have I3 : Inv X pins σ (upd H1 h'.objs.size (.lst [])) { s1 with heap := h'.push { cls := .type "list", data := .seq #[] } } := I2.lnew (its := []) (t' := s1.toks) .nil (Nat.zero_le _)
  show wpAny _ _ (do let old ← Builtin.List.listItems (.ref h'.objs.size); Builtin.List.listUpdate (.ref h'.objs.size) (fun _ => #[]); letGo old.toList.reverse; Builtin.List.listExtendWith (.ref h'.objs.size) (.ref (n0 + 4)) .none) _ _ _
  refine wpAny_bind ?_
  unfold Builtin.List.listItems
  refine wpAny_bind (wpAny_seqItems hS rfl (wpAny_pure ?_))
  show wpAny _ _ (updateSeq h'.objs.size (fun _ => #[]) >>= fun _ => letGo (#[] : Array Value).toList.reverse >>= fun _ => Builtin.List.listExtendWith (.ref h'.objs.size) (.ref (n0 + 4)) .none) _ _ _
  refine wpAny_bind (wpAny_updateSeq hS rfl ?_)
  have I4 := I3.lset (f := fun _ => #[]) (its := []) (its' := []) (ys := []) (t' := s1.toks) upd_same hS rfl .nil (Nat.zero_le _)
  rw [upd_upd] at I4
  refine wpAny_bind (wpAny_letGo ?_)
  generalize hh4 : (h'.push { cls := .type "list", data := .seq #[] }).update h'.objs.size (Obj.mapSeq fun _ => #[]) = h4 at I4 ⊢
  have up : ∀ c o, h'.get? c = some o → h4.get? c = some o := fun c o e => by
    have : c ≠ h'.objs.size := Nat.ne_of_lt (Heap.lt_size e)
    rw [← hh4]
    exact (Heap.get?_update_other _ _ (Ne.symm this)).trans (Heap.get?_push_of_some _ e)
  have hn : ∀ c, c < h'.objs.size → c ≠ h'.objs.size := fun c h => Nat.ne_of_lt h
  have hT4 : ({ s1 with heap := h4 } : Shared).TypeIs (.ref (n0 + 4)) "zip" := ⟨_, up _ _ z1, rfl⟩
  unfold Builtin.List.listExtendWith
  refine wpAny_bind (wpAny_typeOf hT4 ?_)
  have hne : h'.objs.size ≠ n0 + 4 := by omega
  have g1 : Builtin.List.listSameRef (.ref h'.objs.size) (.ref (n0 + 4)) = false := by simp [Builtin.List.listSameRef, hne]
  have g2 : (Value.type "zip" == Value.type "list") = false := by decide
  have g3 : (Value.type "zip" == Value.type "tuple") = false := by decide
  simp only [g1, g2, g3, Bool.or_false, Bool.false_eq_true, if_false]
  refine wpAny_bind (wpAny_pyIter_zip (up _ _ z1) ?_)
  refine wpAny_bind (wpAny_holding (zip_hint hT4 ?_))
  have la' : @LT.lt Nat instLTNat a n0 := la
  have lb' : @LT.lt Nat instLTNat b n0 := lb
  have five : ∀ {c : Addr}, c ∈ [n0 + 4, n0 + 2, n0 + 3, n0, n0 + 1] → @LE.le Nat instLENat n0 c ∧ @LT.lt Nat instLTNat c (n0 + 5) := fun {c} hcm => by
    have hcm' : c = n0 + 4 ∨ c = n0 + 2 ∨ c = n0 + 3 ∨ c = n0 ∨ c = n0 + 1 := by simpa using hcm
    rcases hcm' with e | e | e | e | e
    · subst e; exact ⟨by omega, by omega⟩
    · subst e; exact ⟨by omega, by omega⟩
    · subst e; exact ⟨by omega, by omega⟩
    · subst e; exact ⟨by omega, by omega⟩
    · subst e; exact ⟨by omega, by omega⟩
  have fin : ∀ {h5 : Heap}, Inv X pins σ (upd H1 h'.objs.size (.lst [])) { s1 with heap := h5 } → (∀ c o, h'.get? c = some o → h5.get? c = some o) → h'.objs.size < h5.objs.size →
      codeAny (model X.prog X.w) X.A.in1 (.builtin "list.extend.loop" ⟨[.ref h'.objs.size, .ref (n0 + 4), .none], []⟩) (wants (fun r s₂ => r = .none ∧ EP X pins σ Q (.ref h'.objs.size) s₂) X.xe) { s1 with heap := h5 } := fun {h5} I5 up5 sz5 => by
    refine zip_loop (A1 := X.A.in1) (Rs := wants (fun r s₂ => r = .none ∧ EP X pins σ Q (.ref h'.objs.size) s₂) X.xe) (κ := κ) (X := X) (pins := pins) (σ := σ) (Q := Q) (xs := xs) (ys := ys) (its := its) (its2 := its2) D (I.ok.hd hc) ?_ ?_ ?_ ?_ ?_ rv rv2 hz (fun H' s' I' hq' => ⟨rfl, .ref h'.objs.size, H', I', rfl, hq'⟩) _ 0 [] _ _ rfl rfl I5 ?_ ?_ ?_ ?_ upd_same ?_
    · intro hm
      have hm' : h'.objs.size = n0 + 4 ∨ h'.objs.size = n0 + 2 ∨ h'.objs.size = n0 + 3 ∨ h'.objs.size = n0 ∨ h'.objs.size = n0 + 1 := by simpa using hm
      omega
    · exact Nat.ne_of_lt (by omega)
    · exact Nat.ne_of_lt (by omega)
    · exact Nat.ne_of_lt (by omega)
    · exact Nat.ne_of_lt (by omega)
    · intro c hcm
      obtain ⟨c1, c2⟩ := five hcm
      have hle : s1.heap.objs.size ≤ c := by rw [hI]; exact c1
      refine ⟨?_, (I1.fpOk (H' := H1) hle (I1.hok.fresh hle)).2⟩
      rw [upd_ne (Nat.ne_of_lt (by omega))]
      exact I1.hok.fresh hle
    · refine ⟨.inl ⟨up5 _ _ z1, _, _, up5 _ _ z3⟩, up5 _ _ z2, z4.at fun o e => up5 _ _ e, z5.at fun o e => up5 _ _ e, fun c hcm => ?_⟩
      exact Nat.lt_of_lt_of_le (five hcm).2 (show n0 + 5 ≤ h5.objs.size by omega)
    · exact k1.at fun o e => up5 _ _ (hk _ _ e)
    · exact k2.at fun o e => up5 _ _ (hk _ _ e)
    · exact hq _ fr
  have sz4 : h'.objs.size < h4.objs.size := by
    rw [← hh4, Heap.size_update, Heap.size_push]
    omega
  obtain ⟨z', its', k, r3, hl3, e3⟩ := I4.lstM upd_same
  cases r3
  refine wpAny_ite_split (fun _ => ?_) (fun _ => wpAny_pure ⟨plainId_quiet PySem.F.plain_extend_loop _, fin I4 up sz4⟩)
  refine wpAny_bind (wpAny_rule ?_)
  refine wpAny_bind ?_
  show wpAny _ _ (updateSeq h'.objs.size (·.push .none) >>= fun _ => updateSeq h'.objs.size (·.pop)) _ _ _
  refine wpAny_bind (wpAny_updateSeq e3 rfl ?_)
  have I5 := I4.lset (f := (·.push Value.none)) (its' := [Value.none]) (ys := [.non]) (t' := s1.toks) upd_same e3 (by simp) (.cons rfl .nil) (by rw [List.length_singleton, sizeLine_eq]; decide)
  obtain ⟨z5', its4, k4, r4, hl4, e4⟩ := I5.lstM upd_same
  obtain ⟨u4, rfl, ru4⟩ := r4.one
  refine wpAny_updateSeq e4 rfl ?_ (by show 1 ≤ sizeLine; rw [sizeLine_eq]; decide) (by show 0 ≤ sizeLine + 1; exact Nat.zero_le _)
  have I6 := I5.lset (f := (·.pop)) (its := [u4]) (its' := []) (ys := []) (t' := s1.toks) upd_same e4 (by rfl) .nil (Nat.zero_le _)
  rw [upd_upd, upd_upd] at I6
  refine wpAny_pure ⟨plainId_quiet PySem.F.plain_extend_loop _, fin I6 (fun c o e => ?_) (by rw [Heap.size_update, Heap.size_update]; exact sz4)⟩
  have nc : c ≠ h'.objs.size := Nat.ne_of_lt (Heap.lt_size e)
  exact (Heap.get?_update_other _ _ (Ne.symm nc)).trans ((Heap.get?_update_other _ _ (Ne.symm nc)).trans (up c o e))
end
end ZipL
namespace Sim
open PySem PySem.Spec PyProof.Rows L2 ZipL
def zipD (xs ys : List D) : List D := List.zipWith (fun x y => .tup [x, y]) xs ys
def rZipD : RLD := fun ds cs Q => match ds with
  | [d, e] => ∃ xs ys, ((lstOf d cs = some xs ∧ lstOf e cs = some ys) ∨ (d = .tup xs ∧ e = .tup ys)) ∧ Q (.loc cs.length) (cs ++ [.lst (zipD xs ys)])
  | _ => False
theorem zipRun_ok {K : PySem.W.Frag} {T : Tabl} {P : DK} {Q : VK} {q : Addr} {n : Nat} : ∀ {xs ys : List D} {vs us : List V} {F : Hp} {m : List Addr} {H : Hp} {cs : CsL} {acc : List D} {av : List V}, Mem K T F m H cs → Cont K T F m H P Q → m[n]? = some q → cs[n]? = some (.lst acc) →
    RepL K F m xs vs → RepL K F m ys us → RepL K F m acc av → P (.loc n) (cs.set n (.lst (acc ++ zipD xs ys))) → H q = some (.lst av) → zipRun q Q (vs.zip us) av H := by
  intro xs
  induction xs with
  | nil =>
    intro ys vs us F m H cs acc av M k hm hc r1 r2 ra p hH
    simp only [RepL] at r1
    subst r1
    have e : acc ++ zipD [] ys = acc := by simp [zipD]
    rw [e] at p
    have e2 : cs.set n (.lst acc) = cs := by
      apply List.ext_getElem?
      intro j
      by_cases h : n = j
      · subst h
        rw [List.getElem?_set_self (List.getElem?_eq_some_iff.mp hc).1, hc]
      · rw [List.getElem?_set_ne h]
    rw [e2] at p
    exact k F m H cs _ _ p M .refl (by simp only [Rep]; exact ⟨q, rfl, hm⟩)
  | cons x xs ih =>
    intro ys vs us F m H cs acc av M k hm hc r1 r2 ra p hH
    simp only [RepL] at r1
    obtain ⟨v, vs', rfl, rx, r1⟩ := r1
    cases ys with
    | nil =>
      simp only [RepL] at r2
      subst r2
      have e : acc ++ zipD (x :: xs) [] = acc := by simp [zipD]
      rw [e] at p
      have e2 : cs.set n (.lst acc) = cs := by
        apply List.ext_getElem?
        intro j
        by_cases h : n = j
        · subst h
          rw [List.getElem?_set_self (List.getElem?_eq_some_iff.mp hc).1, hc]
        · rw [List.getElem?_set_ne h]
      rw [e2] at p
      exact k F m H cs _ _ p M .refl (by simp only [Rep]; exact ⟨q, rfl, hm⟩)
    | cons y ys =>
      simp only [RepL] at r2
      obtain ⟨u, us', rfl, ry, r2⟩ := r2
      intro T hT
      have M1 := M.put (o := .tup [v, u]) hT fun ps z => by cases z
      have g1 : Grow F m H (upd F T (.tup [v, u])) m (upd H T (.tup [v, u])) := .put hT (M.noF hT)
      have hF := (M.cell n q _ hm hc).1
      have hqT : q ≠ T := ne_of_none hH hT
      have hF1 : upd F T (.tup [v, u]) q = none := by rw [upd_ne hqT]; exact hF
      have rt : Rep K (upd F T (.tup [v, u])) m (.tup [x, y]) (.ref T) := by
        simp only [Rep]
        exact ⟨T, [v, u], rfl, .of upd_same, .cons (g1.rep rx) (.cons (g1.rep ry) .nil)⟩
      have ra1 : RepL K (upd F T (.tup [v, u])) m (acc ++ [.tup [x, y]]) (av ++ [.ref T]) := (g1.repL ra).app (.cons rt .nil)
      have M2 := M1.write (o := .lst (av ++ [.ref T])) (c := .lst (acc ++ [.tup [x, y]])) hm True.intro hF1 ⟨hF1, _, upd_same, ra1⟩
      have g2 : Grow (upd F T (.tup [v, u])) m (upd H T (.tup [v, u])) (upd F T (.tup [v, u])) m (upd (upd H T (.tup [v, u])) q (.lst (av ++ [.ref T]))) := .write M1 hm
      refine ih M2 (fun F' m' H' cs' d' v' p' M' g' r' => k F' m' H' cs' d' v' p' M' ((g1.trans g2).trans g') r') hm (List.getElem?_set_self (List.getElem?_eq_some_iff.mp hc).1) (g1.repL r1) (g1.repL r2) ra1 ?_ upd_same
      rw [List.set_set]
      have e : acc ++ [D.tup [x, y]] ++ zipD xs ys = acc ++ zipD (x :: xs) (y :: ys) := by simp [zipD]
      rw [e]
      exact p
theorem callS_zip {K : PySem.W.Frag} {T : Tabl} : CallS K T (rZipL K) rZipD := by
  intro F m H cs ds vs P Q M r h k
  unfold rZipD at h
  split at h
  · rename_i d e
    obtain ⟨xs, ys, hs, p⟩ := h
    simp only [RepL] at r
    obtain ⟨v, w, rfl, r1, u, w', rfl, r2, rfl⟩ := r
    have key : ∀ {a b : Addr} {us ws : List V}, RepL K F m xs us → RepL K F m ys ws → ∀ q, H q = none → zipRun q Q (us.zip ws) [] (upd H q (.lst [])) := fun {a b us ws} rx ry q hq => by
      have M1 := M.alloc (o := .lst []) (c := .lst []) hq True.intro ⟨M.noF hq, [], upd_same, .nil⟩
      have g1 : Grow F m H F (m ++ [q]) (upd H q (.lst [])) := .alloc hq
      refine zipRun_ok (n := cs.length) (acc := []) M1 (fun F' m' H' cs' d' v' p' M' g' r' => k F' m' H' cs' d' v' p' M' (g1.trans g') r') ?_ ?_ (g1.repL rx) (g1.repL ry) .nil ?_ upd_same
      · rw [← M.len, List.getElem?_append_right (Nat.le_refl _)]; simp
      · simp
      · have e : (cs ++ [Cell.lst []]).set cs.length (.lst ([] ++ zipD xs ys)) = cs ++ [.lst (zipD xs ys)] := by simp
        rw [e]
        exact p
    rcases hs with ⟨h1, h2⟩ | ⟨h1, h2⟩
    · obtain ⟨a, us, e1, s1, rx⟩ := lstOf_ok M r1 h1
      obtain ⟨b, ws, e2, s2, ry⟩ := lstOf_ok M r2 h2
      exact ⟨a, b, us, ws, by rw [e1, e2], .inl ⟨s1, s2⟩, key (a := a) (b := b) rx ry⟩
    · subst h1 h2
      simp only [Rep] at r1 r2
      obtain ⟨a, us, e1, s1, rx⟩ := r1
      obtain ⟨b, ws, e2, s2, ry⟩ := r2
      exact ⟨a, b, us, ws, by rw [e1, e2], .inr ⟨M.sub.sqt s1, M.sub.sqt s2⟩, key (a := a) (b := b) rx ry⟩
  · exact h.elim
theorem simE_listZip {B : Bx} {e e2 : Expr} {tr : TAD} {p p2 pos pos2 : Pos} (hc : B.X.calm = true) (hm : B.X.mg "list" = none) (hm2 : B.X.mg "zip" = none) (ha : SimA B [e, e2] tr) (hg : Gl B.X "list" := by rfl) (hg2 : Gl B.X "zip" := by rfl)
    (hs : starEach [e, e2] B.X.env = (false, eval e B.X.env) :: starEach [e2] B.X.env := by rfl) (hpl : (backTo pos2 (starEach [e2] B.X.env)).any (·.1) = false := by rfl)
    (hs1 : starEach [.Call (.Name "zip" p2) [e, e2] [] pos2] B.X.env = [(false, eval (.Call (.Name "zip" p2) [e, e2] [] pos2) B.X.env)] := by rfl) :
    SimE B (.Call (.Name "list" p) [.Call (.Name "zip" p2) [e, e2] [] pos2] [] pos) (dCallB rZipD tr) := PE.to (pe_listZip hc hg hm hg2 hm2 ha hs hpl hs1) (callB_to callS_zip)
end Sim


/-! Sim, part M: a def held by a name. -/
namespace Sim
open PySem PySem.Spec PyProof.Rows L2
/-- the def at f keeps p -/
def HeldOk (G : Gx) (k : Nat) (ps : List Str) (f : Addr) (p : PD) : Prop :=
  ∃ fd, FnOk G.P G.w G.K G.mg G.base (L2.CX G.P G.w) k f fd ps (spD G.K G.T p) ∧ PySem.W.keepIn G.K (.ref f) = true ∧ L2.Binds G.K fd ps []
def HeldOkK (G : Gx) (k : Nat) (ps : List Str) (n : Nat) (ks : List Str) (idx : List Nat) (f : Addr) (p : PD) : Prop :=
  ∃ fd, FnOk G.P G.w G.K G.mg G.base (L2.CX G.P G.w) k f fd ps (spD G.K G.T p) ∧ PySem.W.keepIn G.K (.ref f) = true ∧ KBn G.K fd ps n ks (fun us ws => pick idx (us ++ ws)) (fun vs zs => pick idx (vs ++ zs))
theorem DefOk.held {G : Gx} {k : Nat} {x qual : Str} {dst : Stmt} {ps : List Str} {p : PD} {f : Addr} (h : DefOk G k x qual dst ps p) (hm : G.mg x = some (.ref f)) : HeldOk G k ps f p := by
  obtain ⟨f', fd, h1, h2, h3, h4⟩ := h
  rw [hm] at h1
  cases h1
  exact ⟨fd, h3, h2.kp, h4⟩
theorem DefOk.heldK {G : Gx} {k n : Nat} {x qual : Str} {dst : Stmt} {ps ks : List Str} {idx : List Nat} {p : PD} {f : Addr} (h : DefOk G k x qual dst ps p) (hm : G.mg x = some (.ref f))
    (hb : ∀ (f : Addr) (fd : FuncData), Fun G.K x qual dst f fd → KBn G.K fd ps n ks (fun us ws => pick idx (us ++ ws)) (fun vs zs => pick idx (vs ++ zs))) : HeldOkK G k ps n ks idx f p := by
  obtain ⟨f', fd, h1, h2, h3, h4⟩ := h
  rw [hm] at h1
  cases h1
  exact ⟨fd, h3, h2.kp, hb _ _ h2⟩
def dCallL (i : Nat) (S : Addr → PD → Prop) (ta : TAD) : TED := fun Ex sl cs Q => ∃ f p, sl[i]? = some (some (.fn f)) ∧ S f p ∧ ta Ex sl cs fun ds cs1 => p ds cs1 Q Ex
def dCallLK (i n m : Nat) (idx : List Nat) (S : Addr → PD → Prop) (tk : TAD) : TED := fun Ex sl cs Q => ∃ f p, sl[i]? = some (some (.fn f)) ∧ S f p ∧ tk Ex sl cs fun es cs1 => es.length = m ∧ p (pick idx es) cs1 Q Ex
section
variable {B : Bx} {e : Expr} {es : List Expr} {tr : TAD} {pos : Pos}
theorem slot_fn {K : PySem.W.Frag} {F : Hp} {m : List Addr} {sl : Sl} {σ : L2.St} {i : Nat} {f : Addr} (A : SlR K F m sl σ) (h : sl[i]? = some (some (.fn f))) : σ[i]? = some (some (.ref f)) := by
  obtain ⟨v, e, r⟩ := A.get _ _ h
  simp only [Rep] at r
  subst r
  exact e
theorem simE_callL {G : Gx} {k j i : Nat} {x : Str} {ps : List Str} {pn : Pos} (S : Addr → PD → Prop) (good : Good G j B) (hS : ∀ f p, S f p → HeldOk G k ps f p) (ha : SimA B (e :: es) tr) (hk : k ≤ j := by decide) (hN : B.X.N[i]? = some x := by rfl) (hv : Vis B.X.env.scope x := by first | exact .inl rfl | exact .inr (.inl rfl) | exact .inr (.inr rfl))
    (hdb : (x == ("__debug__" : Str)) = false := by decide) (hcd : (x == ("__classdict__" : Str)) = false := by decide)
    (he : starEach (e :: es) B.X.env = (false, eval e B.X.env) :: starEach es B.X.env := by rfl) (hpl : (backTo pos (starEach es B.X.env)).any (·.1) = false := by rfl) :
    SimE B (.Call (.Name x pn) (e :: es) [] pos) (dCallL i S tr) := by
  refine ⟨fun pins s σ H Q I ⟨F, m, cs, sl, Ex, P, A, X, ⟨f, p, hs, hSp, h⟩, k⟩ => ?_⟩
  obtain ⟨fd, h3, h2, h4⟩ := hS f p hSp
  refine (pe_callL (E := B.E) (f := f) (i := i) (good.fn h3) (good.room.mono hk) hN hv (by rw [good.ing.K]; exact h2) (by rw [good.ing.K]; exact h4) .nil good.pass ha hdb hcd he hpl).run pins s σ H Q I ⟨slot_fn A.slr hs, ?_⟩
  exact ⟨F, m, cs, sl, Ex, _, A, X, h, fun F' m' H' cs' ds vs q M g r => by
    show spD B.X.K B.T p (vs ++ []) H' Q B.E
    rw [List.append_nil]
    exact spD_of A X k M g r q⟩
theorem simE_callLK {G : Gx} {k j i : Nat} {x : Str} {ps ks : List Str} {idx : List Nat} {kws : List Keyword} {tk : TAD} {pn : Pos} (S : Addr → PD → Prop) (good : Good G j B) (hS : ∀ f p, S f p → HeldOkK G k ps 0 ks idx f p) (hkw : SimK B kws tk) (hk : k ≤ j := by decide) (hN : B.X.N[i]? = some x := by rfl) (hv : Vis B.X.env.scope x := by first | exact .inl rfl | exact .inr (.inl rfl) | exact .inr (.inr rfl))
    (hall : (backToKw pos (keywordEach kws B.X.env)).all (·.1.isSome) = true := by rfl) (hks : (backToKw pos (keywordEach kws B.X.env)).filterMap (·.1) = ks := by rfl)
    (hdb : (x == ("__debug__" : Str)) = false := by decide) (hcd : (x == ("__classdict__" : Str)) = false := by decide) (hpl : (backToKw pos (keywordEach kws B.X.env)).any (·.1.isNone) = false := by rfl) :
    SimE B (.Call (.Name x pn) [] kws pos) (dCallLK i 0 ks.length idx S tk) := by
  refine ⟨fun pins s σ H Q I ⟨F, m, cs, sl, Ex, P, A, X, ⟨f, p, hs, hSp, h⟩, k⟩ => ?_⟩
  obtain ⟨fd, h3, h2, h4⟩ := hS f p hSp
  refine wpAny_Call_Name_kw (thn ((pe_var (pos := pn) hN hv hdb hcd).run pins s σ H (fun v H1 => v = .ref f ∧ H1 = H) I ⟨.ref f, slot_fn A.slr hs, rfl, rfl⟩) fun u s1 ⟨v, H1, I1, r1, q1⟩ => ?_)
  obtain ⟨rfl, rfl⟩ := q1
  cases r1
  refine PySem.W.callWith_KW0 (h₀ := B.X.base) I.ok.mod.kin (by rw [good.ing.K]; exact h2) hall ?_ (by show (false || _) = false; rw [hpl]; rfl)
  have hrun := hkw.run pos pins s1 σ _ (fun zs H2 => zs.length = ks.length ∧ spD B.X.K B.T p (pick idx ([] ++ zs)) H2 Q B.E) I1 ⟨F, m, cs, sl, Ex, _, A, X, h, fun F' m' H' cs' ds vs q M g r => ⟨by rw [← r.length]; exact q.1, spD_of A X k M g (by
    rw [List.nil_append]
    exact pick_rep r idx) q.2⟩⟩
  refine thn hrun fun ws s2 ⟨zs, H2, I2, rz, hl, q⟩ => ⟨I2.kIn, ?_⟩
  rw [hks]
  exact run_fnN (E := B.E) (good.fn h3) (good.room.mono hk) (by rw [good.ing.K]; exact h4) good.pass I2 .nil rz rfl hl q
/-- a module's def, as a value -/
theorem simE_fn {x : Str} {f : Addr} (hm : B.X.mg x = some (.ref f)) (hg : Gl B.X x := by rfl) (hdb : (x == ("__debug__" : Str)) = false := by decide) : SimE B (.Name x pos) (dC (.fn f)) :=
  simE_c (.fn f) (.ref f) (pe_glob hg hm rfl hdb) fun F m => by simp only [Rep]
/-- a module's constant -/
theorem simE_gint {x : Str} {i : Int} {t : Tok} (hm : B.X.mg x = some (.int i t)) (hg : Gl B.X x := by rfl) (hdb : (x == ("__debug__" : Str)) = false := by decide) : SimE B (.Name x pos) (dC (.int i)) :=
  simE_c (.int i) (.int i) (pe_glob hg hm ⟨t, rfl⟩ hdb) fun F m => by simp only [Rep]
theorem simE_gstr {x z : Str} {t : Tok} (hm : B.X.mg x = some (.str z t)) (hg : Gl B.X x := by rfl) (hdb : (x == ("__debug__" : Str)) = false := by decide) : SimE B (.Name x pos) (dC (.str z)) :=
  simE_c (.str z) (.str z) (pe_glob hg hm ⟨t, rfl⟩ hdb) fun F m => by simp only [Rep]
end
end Sim


/-! Sim, part N: dicts compared; {}; isinstance of a dict; more. -/
namespace Sim
open PySem PySem.Spec PyProof.Rows L2
def flatD : D → Bool
  | .non => true | .bl _ => true | .int _ => true | .str _ => true | _ => false
section
variable {K : PySem.W.Frag} {T : Tabl} {F H : Hp} {m : List Addr} {cs : CsL}
theorem flat_same {ds : List D} : ∀ {vs us : List V}, (∀ d ∈ ds, flatD d = true) → RepL K F m ds vs → RepL K F m ds us → vs = us ∧ ∀ v ∈ vs, flatB v = true := by
  induction ds with
  | nil =>
    intro vs us hf r1 r2
    simp only [RepL] at r1 r2
    subst r1 r2
    exact ⟨rfl, fun v h => by cases h⟩
  | cons d ds ih =>
    intro vs us hf r1 r2
    simp only [RepL] at r1 r2
    obtain ⟨v, w, rfl, a1, b1⟩ := r1
    obtain ⟨u, w', rfl, a2, b2⟩ := r2
    obtain ⟨e, hfl⟩ := ih (fun x hx => hf x (List.mem_cons_of_mem _ hx)) b1 b2
    have := hf d List.mem_cons_self
    cases d <;> simp only [flatD, reduceCtorEq, Bool.false_eq_true] at this <;> simp only [Rep] at a1 a2 <;> subst a1 a2 <;> refine ⟨by rw [e], fun x hx => ?_⟩ <;>
      (rcases List.mem_cons.mp hx with z | z; · subst z; rfl
       · exact hfl x z)
theorem valV_self {ks : List Key} : ∀ {vs : List V}, ks.Nodup → ∀ p ∈ ks.zip vs, valV (ks.zip vs) p.1 = some p.2 := by
  induction ks with
  | nil => intro vs _ p hp; simp at hp
  | cons k ks ih =>
    intro vs hn p hp
    cases vs with
    | nil => simp at hp
    | cons v vs =>
      rw [List.zip_cons_cons] at hp ⊢
      rcases List.mem_cons.mp hp with e | e
      · subst e; exact valV_pos rfl
      · have hk : p.1 ∈ ks := by
          obtain ⟨a, b⟩ := p
          exact (List.of_mem_zip e).1
        have hne : ¬ k = p.1 := fun z => (List.nodup_cons.mp hn).1 (z ▸ hk)
        rw [valV_neg hne]
        exact ih (List.nodup_cons.mp hn).2 p e
end
/-- dicts of the same keys and the same flat values -/
def rDr (op : Bool) : R2 := fun x y H Q => ∃ a b ks ls, x = .ref a ∧ y = .ref b ∧ Rd H a (.dK ks) ∧ Rd H b (.dK ls) ∧ ks.length = ls.length ∧ (∀ p ∈ ks, valV ls p.1 = some p.2 ∧ flatB p.2 = true) ∧ Q (.bl op) H
theorem op_eqDr {X : Cx} (hu : X.A.units < cLine) : OpR X (compareOp .Eq) (rDr true) := by
  intro pins s σ H x y v u Q I rx ry h
  obtain ⟨a, b, ks, ls, rfl, rfl, ea, eb, hlen, hp, q⟩ := h
  obtain rfl : v = Value.ref a := rx
  obtain rfl : u = Value.ref b := ry
  obtain ⟨_, ya, va, ra, da⟩ := (show ObjOk X.prog X.w H s.heap a (.dK ks) from ea.ok I.hok)
  obtain ⟨_, yb, vb, rb, db⟩ := (show ObjOk X.prog X.w H s.heap b (.dK ls) from eb.ok I.hok)
  have hl : va.length = vb.length := by rw [← ra.length, ← rb.length]; exact hlen
  exact PySem.W.keq_eq (knd := mixKind X.prog X.w) (r := true) ya yb da db hu (fun _ => hits_all rb ra hp) (fin_bl I q (by simp [hl]))
theorem op_neDr {X : Cx} (hu : X.A.units < cLine) : OpR X (compareOp .NotEq) (rDr false) := by
  intro pins s σ H x y v u Q I rx ry h
  obtain ⟨a, b, ks, ls, rfl, rfl, ea, eb, hlen, hp, q⟩ := h
  obtain rfl : v = Value.ref a := rx
  obtain rfl : u = Value.ref b := ry
  obtain ⟨_, ya, va, ra, da⟩ := (show ObjOk X.prog X.w H s.heap a (.dK ks) from ea.ok I.hok)
  obtain ⟨_, yb, vb, rb, db⟩ := (show ObjOk X.prog X.w H s.heap b (.dK ls) from eb.ok I.hok)
  have hl : va.length = vb.length := by rw [← ra.length, ← rb.length]; exact hlen
  exact PySem.W.keq_ne (knd := mixKind X.prog X.w) (r := true) ya yb da db hu (fun _ => hits_all rb ra hp) (fin_bl I q (by simp [hl]))
/-- equal (neg: unequal), dicts of the same flat content too -/
def rEqvD (neg : Bool) : R2D := fun d e cs Q => (∃ ks ds, dicOf d cs = some (ks, ds) ∧ dicOf e cs = some (ks, ds) ∧ ks.Nodup ∧ (∀ x ∈ ds, flatD x = true) ∧ Q (.bl (!neg)) cs) ∨ rEqv neg d e cs Q
section
variable {K : PySem.W.Frag} {T : Tabl}
theorem opS_dr {neg : Bool} : OpS K T (rDr (!neg)) (fun d e cs Q => ∃ ks ds, dicOf d cs = some (ks, ds) ∧ dicOf e cs = some (ks, ds) ∧ ks.Nodup ∧ (∀ x ∈ ds, flatD x = true) ∧ Q (.bl (!neg)) cs) := by
  intro F m H cs d e v u P Q M r1 r2 h k
  obtain ⟨ks, ds, h1, h2, hn, hf, p⟩ := h
  obtain ⟨a, vs, e1, s1, l1, rl1⟩ := dicOf_ok M r1 h1
  obtain ⟨b, us, e2, s2, l2, rl2⟩ := dicOf_ok M r2 h2
  obtain ⟨e3, hfl⟩ := flat_same hf rl1 rl2
  subst e3
  exact ⟨a, b, _, _, e1, e2, s1, s2, rfl, fun p hp => ⟨valV_self hn p hp, hfl _ (by obtain ⟨x, y⟩ := p; exact (List.of_mem_zip hp).2)⟩, k F m H cs _ _ p M .refl (by simp [Rep])⟩
theorem OpS.or {R R' : R2} {r r' : R2D} (h : OpS K T R r) (h' : OpS K T R' r') : OpS K T (fun x y H Q => R x y H Q ∨ R' x y H Q) (fun d e cs Q => r d e cs Q ∨ r' d e cs Q) := fun F m H cs d e v u P Q M r1 r2 q k =>
  q.elim (fun q => .inl (h F m H cs d e v u P Q M r1 r2 q k)) (fun q => .inr (h' F m H cs d e v u P Q M r1 r2 q k))
end
def REqD (K : PySem.W.Frag) : R2 := fun x y H Q => rDr true x y H Q ∨ REq K x y H Q
def RNeD (K : PySem.W.Frag) : R2 := fun x y H Q => rDr false x y H Q ∨ RNe K x y H Q
theorem op_eqAD {X : Cx} (hu : X.A.units + 64 < cLine) : OpR X (compareOp .Eq) (REqD X.K) := OpR.or (op_eqDr (by omega)) (op_eqA hu)
theorem op_neAD {X : Cx} (hu : X.A.units + 64 < cLine) : OpR X (compareOp .NotEq) (RNeD X.K) := OpR.or (op_neDr (by omega)) (op_neA hu)
theorem opS_eqD {K : PySem.W.Frag} {T : Tabl} : OpS K T (REqD K) (rEqvD false) := OpS.or (opS_dr (neg := false)) opS_eq
theorem opS_neD {K : PySem.W.Frag} {T : Tabl} : OpS K T (RNeD K) (rEqvD true) := OpS.or (opS_dr (neg := true)) opS_ne
end Sim


/-! Sim, part P: the rules as they are printed. -/
namespace Sim
open PySem PySem.Spec PyProof.Rows L2
section
variable {G : Gx} {k : Nat} {B : Bx} {a b c e : Expr} {es : List Expr} {ta tb tc te : TED} {tr : TAD} {pos : Pos}
theorem Good.hu (g : Good G k B) : B.X.A.units + 64 < cLine := by have := g.room.un; omega
theorem sv (i : Nat) {x : Str} (hN : B.X.N[i]? = some x := by rfl) (hv : Vis B.X.env.scope x := by first | exact .inl rfl | exact .inr (.inl rfl) | exact .inr (.inr rfl))
    (hdb : (x == ("__debug__" : Str)) = false := by decide) (hcd : (x == ("__classdict__" : Str)) = false := by decide) : SimE B (.Name x pos) (dVar i) := simE_var i (pe_var hN hv hdb hcd)
/-- + - * // % ** -/
theorem sAdd (ha : SimE B a ta) (hb : SimE B b tb) : SimE B (.BinOp a .Add b pos) (dBin rAdd ta tb) := simE_op op_addA opS_addA ha hb
theorem sSub (ha : SimE B a ta) (hb : SimE B b tb) : SimE B (.BinOp a .Sub b pos) (dBin rSub ta tb) := simE_op op_sub opS_sub ha hb
theorem sMul (ha : SimE B a ta) (hb : SimE B b tb) : SimE B (.BinOp a .Mult b pos) (dBin rMulD ta tb) := simE_op op_mulA opS_mulA ha hb
theorem sFdv (ha : SimE B a ta) (hb : SimE B b tb) : SimE B (.BinOp a .FloorDiv b pos) (dBin rFdiv ta tb) := simE_op op_fdivW opS_fdiv ha hb
theorem sMod (ha : SimE B a ta) (hb : SimE B b tb) : SimE B (.BinOp a .Mod b pos) (dBin rMod ta tb) := simE_op op_mod opS_mod ha hb
theorem sPow (ha : SimE B a ta) (hb : SimE B b tb) : SimE B (.BinOp a .Pow b pos) (dBin rPow ta tb) := simE_op op_pow opS_pow ha hb
/-- comparisons, as values -/
theorem sEq (g : Good G k B) (ha : SimE B a ta) (hb : SimE B b tb) (hm : behindInMarks .Eq b = false := by rfl) : SimE B (.Compare a [.Eq] [b] pos) (dBin (rEqvD false) ta tb) := simE_cmp (op_eqAD g.hu) opS_eqD ha hb hm
theorem sNe (g : Good G k B) (ha : SimE B a ta) (hb : SimE B b tb) (hm : behindInMarks .NotEq b = false := by rfl) : SimE B (.Compare a [.NotEq] [b] pos) (dBin (rEqvD true) ta tb) := simE_cmp (op_neAD g.hu) opS_neD ha hb hm
theorem sLt (g : Good G k B) (ha : SimE B a ta) (hb : SimE B b tb) (hm : behindInMarks .Lt b = false := by rfl) : SimE B (.Compare a [.Lt] [b] pos) (dBin rLt ta tb) := simE_cmp op_lt opS_lt ha hb hm
theorem sLe (g : Good G k B) (ha : SimE B a ta) (hb : SimE B b tb) (hm : behindInMarks .LtE b = false := by rfl) : SimE B (.Compare a [.LtE] [b] pos) (dBin rLe ta tb) := simE_cmp op_le opS_le ha hb hm
theorem sGt (g : Good G k B) (ha : SimE B a ta) (hb : SimE B b tb) (hm : behindInMarks .Gt b = false := by rfl) : SimE B (.Compare a [.Gt] [b] pos) (dBin rGt ta tb) := simE_cmp op_gt opS_gt ha hb hm
theorem sGe (g : Good G k B) (ha : SimE B a ta) (hb : SimE B b tb) (hm : behindInMarks .GtE b = false := by rfl) : SimE B (.Compare a [.GtE] [b] pos) (dBin rGe ta tb) := simE_cmp op_ge opS_ge ha hb hm
theorem sIsN (g : Good G k B) (ha : SimE B a ta) (hb : SimE B b tb) (hm : behindInMarks .Is b = false := by rfl) : SimE B (.Compare a [.Is] [b] pos) (dBin (rIsN false) ta tb) := simE_cmp op_isN opS_isN ha hb hm
theorem sNotN (g : Good G k B) (ha : SimE B a ta) (hb : SimE B b tb) (hm : behindInMarks .IsNot b = false := by rfl) : SimE B (.Compare a [.IsNot] [b] pos) (dBin (rIsN true) ta tb) := simE_cmp op_notN opS_notN ha hb hm
theorem sInS (g : Good G k B) (ha : SimE B a ta) (hb : SimE B b tb) (hm : behindInMarks .In b = false := by rfl) : SimE B (.Compare a [.In] [b] pos) (dBin (rInS false) ta tb) := simE_cmp op_in_sign opS_inS ha hb hm
theorem sNinS (g : Good G k B) (ha : SimE B a ta) (hb : SimE B b tb) (hm : behindInMarks .NotIn b = false := by rfl) : SimE B (.Compare a [.NotIn] [b] pos) (dBin (rInS true) ta tb) := simE_cmp op_notIn_sign opS_notInS ha hb hm
/-- comparisons, as tests -/
theorem tEq (g : Good G k B) (ha : SimE B a ta) (hb : SimE B b tb) (hm : behindInMarks .Eq b = false := by rfl) : SimT B (.Compare a [.Eq] [b] pos) (dTest (dBin (rEqvD false) ta tb)) := simT_cmp (op_eqAD g.hu) opS_eqD ha hb hm
theorem tNe (g : Good G k B) (ha : SimE B a ta) (hb : SimE B b tb) (hm : behindInMarks .NotEq b = false := by rfl) : SimT B (.Compare a [.NotEq] [b] pos) (dTest (dBin (rEqvD true) ta tb)) := simT_cmp (op_neAD g.hu) opS_neD ha hb hm
theorem tLt (g : Good G k B) (ha : SimE B a ta) (hb : SimE B b tb) (hm : behindInMarks .Lt b = false := by rfl) : SimT B (.Compare a [.Lt] [b] pos) (dTest (dBin rLt ta tb)) := simT_cmp op_lt opS_lt ha hb hm
theorem tLe (g : Good G k B) (ha : SimE B a ta) (hb : SimE B b tb) (hm : behindInMarks .LtE b = false := by rfl) : SimT B (.Compare a [.LtE] [b] pos) (dTest (dBin rLe ta tb)) := simT_cmp op_le opS_le ha hb hm
theorem tGt (g : Good G k B) (ha : SimE B a ta) (hb : SimE B b tb) (hm : behindInMarks .Gt b = false := by rfl) : SimT B (.Compare a [.Gt] [b] pos) (dTest (dBin rGt ta tb)) := simT_cmp op_gt opS_gt ha hb hm
theorem tGe (g : Good G k B) (ha : SimE B a ta) (hb : SimE B b tb) (hm : behindInMarks .GtE b = false := by rfl) : SimT B (.Compare a [.GtE] [b] pos) (dTest (dBin rGe ta tb)) := simT_cmp op_ge opS_ge ha hb hm
theorem tIsN (g : Good G k B) (ha : SimE B a ta) (hb : SimE B b tb) (hm : behindInMarks .Is b = false := by rfl) : SimT B (.Compare a [.Is] [b] pos) (dTest (dBin (rIsN false) ta tb)) := simT_cmp op_isN opS_isN ha hb hm
theorem tNotN (g : Good G k B) (ha : SimE B a ta) (hb : SimE B b tb) (hm : behindInMarks .IsNot b = false := by rfl) : SimT B (.Compare a [.IsNot] [b] pos) (dTest (dBin (rIsN true) ta tb)) := simT_cmp op_notN opS_notN ha hb hm
theorem tInS (g : Good G k B) (ha : SimE B a ta) (hb : SimE B b tb) (hm : behindInMarks .In b = false := by rfl) : SimT B (.Compare a [.In] [b] pos) (dTest (dBin (rInS false) ta tb)) := simT_cmp op_in_sign opS_inS ha hb hm
theorem tNinS (g : Good G k B) (ha : SimE B a ta) (hb : SimE B b tb) (hm : behindInMarks .NotIn b = false := by rfl) : SimT B (.Compare a [.NotIn] [b] pos) (dTest (dBin (rInS true) ta tb)) := simT_cmp op_notIn_sign opS_notInS ha hb hm
/-- a < b < c -/
theorem sLtLt (ha : SimE B a ta) (hb : SimE B b tb) (hc : SimE B c tc) (hm : lastMarks [.Lt, .Lt] [b, c] = false := by with_unfolding_all rfl) : SimE B (.Compare a [.Lt, .Lt] [b, c] pos) (dChain rLt rLt ta tb tc) := simE_chain op_lt opS_lt op_lt opS_lt ha hb hc hm
theorem sLeLe (ha : SimE B a ta) (hb : SimE B b tb) (hc : SimE B c tc) (hm : lastMarks [.LtE, .LtE] [b, c] = false := by with_unfolding_all rfl) : SimE B (.Compare a [.LtE, .LtE] [b, c] pos) (dChain rLe rLe ta tb tc) := simE_chain op_le opS_le op_le opS_le ha hb hc hm
theorem tLtLt (ha : SimE B a ta) (hb : SimE B b tb) (hc : SimE B c tc) (hm : lastMarks [.Lt, .Lt] [b, c] = false := by with_unfolding_all rfl) : SimT B (.Compare a [.Lt, .Lt] [b, c] pos) (dTest (dChain rLt rLt ta tb tc)) := simT_chain op_lt opS_lt op_lt opS_lt ha hb hc hm
theorem tLeLe (ha : SimE B a ta) (hb : SimE B b tb) (hc : SimE B c tc) (hm : lastMarks [.LtE, .LtE] [b, c] = false := by with_unfolding_all rfl) : SimT B (.Compare a [.LtE, .LtE] [b, c] pos) (dTest (dChain rLe rLe ta tb tc)) := simT_chain op_le opS_le op_le opS_le ha hb hc hm
/-- built-ins -/
theorem cIsi {p : Pos} (hm : B.X.mg "isinstance" = none) (ha : SimA B [a, b] tr) (hg : Gl B.X "isinstance" := by rfl) (he : starEach [a, b] B.X.env = (false, eval a B.X.env) :: starEach [b] B.X.env := by rfl) (hpl : (backTo pos (starEach [b] B.X.env)).any (·.1) = false := by rfl) :
    SimE B (.Call (.Name "isinstance" p) [a, b] [] pos) (dCallB rIsi tr) := simE_callB call_isi callS_isi hm ha (hg := hg) (he := he) (hpl := hpl)
theorem cLen {p : Pos} (hm : B.X.mg "len" = none) (ha : SimA B [a] tr) (hg : Gl B.X "len" := by rfl) (he : starEach [a] B.X.env = (false, eval a B.X.env) :: starEach [] B.X.env := by rfl) : SimE B (.Call (.Name "len" p) [a] [] pos) (dCallB rLen tr) := simE_callB L2.call_len callS_len hm ha (hg := hg) (he := he)
theorem cAbs {p : Pos} (hm : B.X.mg "abs" = none) (ha : SimA B [a] tr) (hg : Gl B.X "abs" := by rfl) (he : starEach [a] B.X.env = (false, eval a B.X.env) :: starEach [] B.X.env := by rfl) : SimE B (.Call (.Name "abs" p) [a] [] pos) (dCallB rAbs tr) := simE_callB call_abs callS_abs hm ha (hg := hg) (he := he)
theorem cMax2 {p : Pos} (g : Good G k B) (hm : B.X.mg "max" = none) (ha : SimA B [a, b] tr) (hg : Gl B.X "max" := by rfl) (he : starEach [a, b] B.X.env = (false, eval a B.X.env) :: starEach [b] B.X.env := by rfl) (hpl : (backTo pos (starEach [b] B.X.env)).any (·.1) = false := by rfl) :
    SimE B (.Call (.Name "max" p) [a, b] [] pos) (dCallB rMax2 tr) := simE_callB (call_max2 g.calm) callS_max2 hm ha (hg := hg) (he := he) (hpl := hpl)
theorem cMin2 {p : Pos} (g : Good G k B) (hm : B.X.mg "min" = none) (ha : SimA B [a, b] tr) (hg : Gl B.X "min" := by rfl) (he : starEach [a, b] B.X.env = (false, eval a B.X.env) :: starEach [b] B.X.env := by rfl) (hpl : (backTo pos (starEach [b] B.X.env)).any (·.1) = false := by rfl) :
    SimE B (.Call (.Name "min" p) [a, b] [] pos) (dCallB rMin2 tr) := simE_callB (call_min2 g.calm) callS_min2 hm ha (hg := hg) (he := he) (hpl := hpl)
theorem cInt {p : Pos} (hm : B.X.mg "int" = none) (ha : SimA B [a] tr) (hg : Gl B.X "int" := by rfl) (he : starEach [a] B.X.env = (false, eval a B.X.env) :: starEach [] B.X.env := by rfl) : SimE B (.Call (.Name "int" p) [a] [] pos) (dCallB rInt1 tr) := simE_callTy call_int1 callS_int1 hm ha (hg := hg) (he := he)
theorem cStr {p : Pos} (hm : B.X.mg "str" = none) (ha : SimA B [a] tr) (hg : Gl B.X "str" := by rfl) (he : starEach [a] B.X.env = (false, eval a B.X.env) :: starEach [] B.X.env := by rfl) : SimE B (.Call (.Name "str" p) [a] [] pos) (dCallB rStr1 tr) := simE_callTy call_str_int callS_str1 hm ha (hg := hg) (he := he)
theorem cList {p : Pos} (hm : B.X.mg "list" = none) (ha : SimA B [a] tr) (hg : Gl B.X "list" := by rfl) (he : starEach [a] B.X.env = (false, eval a B.X.env) :: starEach [] B.X.env := by rfl) : SimE B (.Call (.Name "list" p) [a] [] pos) (dCallB rList tr) := simE_callTy call_list_of callS_list hm ha (hg := hg) (he := he)
theorem cTuple {p : Pos} (hm : B.X.mg "tuple" = none) (ha : SimA B [a] tr) (hg : Gl B.X "tuple" := by rfl) (he : starEach [a] B.X.env = (false, eval a B.X.env) :: starEach [] B.X.env := by rfl) : SimE B (.Call (.Name "tuple" p) [a] [] pos) (dCallB rTuple tr) := simE_callTy call_tuple_of callS_tuple hm ha (hg := hg) (he := he)
end
end Sim


/-! Sim, part P2: more rules as they are printed. -/
namespace Sim
open PySem PySem.Spec PyProof.Rows L2
section
variable {G : Gx} {k : Nat} {B : Bx} {a b c e o : Expr} {es : List Expr} {ta tb tc te to : TED} {tr : TAD} {pos apos cpos : Pos}
theorem cAll {p : Pos} (g : Good G k B) (hm : B.X.mg "all" = none) (ha : SimA B [a] tr) (hg : Gl B.X "all" := by rfl) (he : starEach [a] B.X.env = (false, eval a B.X.env) :: starEach [] B.X.env := by rfl) : SimE B (.Call (.Name "all" p) [a] [] pos) (dCallB Sim.rAll tr) := simE_callB (cr_all g.calm) callS_all hm ha (hg := hg) (he := he)
theorem cAny {p : Pos} (g : Good G k B) (hm : B.X.mg "any" = none) (ha : SimA B [a] tr) (hg : Gl B.X "any" := by rfl) (he : starEach [a] B.X.env = (false, eval a B.X.env) :: starEach [] B.X.env := by rfl) : SimE B (.Call (.Name "any" p) [a] [] pos) (dCallB Sim.rAny tr) := simE_callB (cr_any g.calm) callS_any hm ha (hg := hg) (he := he)
/-- o.append(e) -/
theorem mApp (ho : SimE B o to) (ha : SimA B [e] tr) (hbase : attributeBase o "append" B.X.env (eval o B.X.env) = eval o B.X.env := by rfl)
    (hfew : ((backTo cpos (starEach [e] B.X.env)).all (fun x => !x.1) && (backToKw cpos (keywordEach [] B.X.env)).all (fun x => x.1.isSome) && decide ([e].length + ([] : List Keyword).length + (if ([] : List Keyword).isEmpty then 0 else 1) < 30)) = true := by rfl)
    (hline : (apos.endLine == cpos.line) = true := by rfl) (hst : starEach [e] B.X.env = (false, eval e B.X.env) :: starEach [] B.X.env := by rfl) : SimE B (.Call (.Attribute o "append" apos) [e] [] cpos) (dMeth "list" mAppend to tr) :=
  simE_meth PySem.F.plainAttrs_list PySem.F.slot_list_append PySem.F.type_list_append mt_append methS_append ho ha hbase hfew hline hst
theorem mExt (ho : SimE B o to) (ha : SimA B [e] tr) (hbase : attributeBase o "extend" B.X.env (eval o B.X.env) = eval o B.X.env := by rfl)
    (hfew : ((backTo cpos (starEach [e] B.X.env)).all (fun x => !x.1) && (backToKw cpos (keywordEach [] B.X.env)).all (fun x => x.1.isSome) && decide ([e].length + ([] : List Keyword).length + (if ([] : List Keyword).isEmpty then 0 else 1) < 30)) = true := by rfl)
    (hline : (apos.endLine == cpos.line) = true := by rfl) (hst : starEach [e] B.X.env = (false, eval e B.X.env) :: starEach [] B.X.env := by rfl) : SimE B (.Call (.Attribute o "extend" apos) [e] [] cpos) (dMeth "list" mExtend to tr) :=
  simE_meth PySem.F.plainAttrs_list PySem.F.slot_list_extend PySem.F.type_list_extend mt_extend methS_extend ho ha hbase hfew hline hst
theorem mJoi (ho : SimE B o to) (ha : SimA B [e] tr) (hbase : attributeBase o "join" B.X.env (eval o B.X.env) = eval o B.X.env := by rfl)
    (hfew : ((backTo cpos (starEach [e] B.X.env)).all (fun x => !x.1) && (backToKw cpos (keywordEach [] B.X.env)).all (fun x => x.1.isSome) && decide ([e].length + ([] : List Keyword).length + (if ([] : List Keyword).isEmpty then 0 else 1) < 30)) = true := by rfl)
    (hline : (apos.endLine == cpos.line) = true := by rfl) (hst : starEach [e] B.X.env = (false, eval e B.X.env) :: starEach [] B.X.env := by rfl) : SimE B (.Call (.Attribute o "join" apos) [e] [] cpos) (dMeth "str" mJoin to tr) :=
  simE_meth PySem.F.plainAttrs_str PySem.F.slot_str_join PySem.F.type_str_join mt_join methS_join ho ha hbase hfew hline hst
theorem mPop0 (ho : SimE B o to) (hbase : attributeBase o "pop" B.X.env (eval o B.X.env) = eval o B.X.env := by rfl) (hline : (apos.endLine == cpos.line) = true := by rfl) : SimE B (.Call (.Attribute o "pop" apos) [] [] cpos) (dMeth0 "list" mPop to) :=
  simE_meth0 PySem.F.plainAttrs_list PySem.F.slot_list_pop PySem.F.type_list_pop mt_pop methS_pop ho hbase hline
theorem mUpp (ho : SimE B o to) (hbase : attributeBase o "upper" B.X.env (eval o B.X.env) = eval o B.X.env := by rfl) (hline : (apos.endLine == cpos.line) = true := by rfl) : SimE B (.Call (.Attribute o "upper" apos) [] [] cpos) (dMeth0 "str" mUpper to) :=
  simE_meth0 PySem.F.plainAttrs_str PySem.F.slot_str_upper PySem.F.type_str_upper mt_upper methS_upper ho hbase hline
end
end Sim


/-! Sim, part Q: the readings: loops by invariants; unfolding. -/
namespace Sim
open PySem PySem.Spec PyProof.Rows L2
section
variable {c : TTD} {b : TSD} {Ex : ExW} {P : EndsD}
theorem sWhile_of {ι : Type} (I : ι → Sl → CsL → Prop) (μ : ι → Nat) (h : ∀ i sl cs, I i sl cs → ∀ W : Sl → CsL → Prop, (∀ j sl2 cs2, μ j < μ i → I j sl2 cs2 → W sl2 cs2) → c Ex sl cs fun k cs1 => if k = true then b Ex sl cs1 { P with nx := W, ct := W, bk := P.nx } else P.nx sl cs1)
    {i : ι} {sl : Sl} {cs : CsL} (h0 : I i sl cs) : sWhile c b Ex sl cs P := by
  have key : ∀ N i sl cs, μ i < N → I i sl cs → whileD c b Ex N sl cs P := by
    intro N
    induction N with
    | zero => intro i sl cs hn; omega
    | succ N ih =>
      intro i sl cs hn hI
      exact h i sl cs hI (fun sl2 cs2 => whileD c b Ex N sl2 cs2 P) fun j sl2 cs2 hj hI2 => ih j sl2 cs2 (by omega) hI2
  exact ⟨_, key (μ i + 1) i sl cs (by omega) h0⟩
variable {ck : CsL → Prop} {g : TGD}
theorem forD_of (I : List D → Sl → CsL → Prop) (h : ∀ x xs sl cs, I (x :: xs) sl cs → ck cs ∧ ∀ W : Sl → CsL → Prop, (∀ sl2 cs2, I xs sl2 cs2 → W sl2 cs2) → g x sl cs fun sl1 cs1 => b Ex sl1 cs1 { P with nx := W, ct := W, bk := P.nx })
    (hn : ∀ sl cs, I [] sl cs → ck cs ∧ P.nx sl cs) : ∀ {ds : List D} {sl : Sl} {cs : CsL}, I ds sl cs → forD ck g b Ex ds sl cs P
  | [], sl, cs, h0 => hn sl cs h0
  | x :: xs, sl, cs, h0 => by
    obtain ⟨h1, h2⟩ := h x xs sl cs h0
    exact ⟨h1, h2 (fun sl2 cs2 => forD ck g b Ex xs sl2 cs2 P) fun sl2 cs2 h3 => forD_of I h hn h3⟩
variable {t : Tgt} {tt : TTD} {te : TED} {vs : List Nat} {n : Nat} {Q : CsL → Prop}
theorem lcD_of (I : List D → List D → CsL → Prop) {sl : Sl} (hacc : ∀ ds acc cs, I ds acc cs → cs[n]? = some (.lst acc))
    (h : ∀ x xs acc cs, I (x :: xs) acc cs → ck cs ∧ ∀ W : CsL → Prop, (∀ acc2 cs2, I xs acc2 cs2 → W cs2) → tgD t x (wipeA sl vs) fun sl2 => tt (fun _ _ _ => False) sl2 cs fun k cs3 =>
      if k = true then te (fun _ _ _ => False) sl2 cs3 fun y cs4 => ∃ acc, cs4[n]? = some (.lst acc) ∧ acc.length < sizeLine ∧ W (cs4.set n (.lst (acc ++ [y]))) else W cs3)
    (hn : ∀ acc cs, I [] acc cs → ck cs ∧ Q cs) : ∀ {ds acc : List D} {cs : CsL}, I ds acc cs → lcD ck t tt te vs n ds sl cs Q
  | [], acc, cs, h0 => hn acc cs h0
  | x :: xs, acc, cs, h0 => by
    obtain ⟨h1, h2⟩ := h x xs acc cs h0
    exact ⟨h1, h2 (fun cs2 => lcD ck t tt te vs n xs sl cs2 Q) fun acc2 cs2 h3 => lcD_of I hacc h hn h3⟩
theorem lcR_of (I : List D → List D → CsL → Prop) {sl : Sl} (hacc : ∀ ds acc cs, I ds acc cs → cs[n]? = some (.lst acc))
    (h : ∀ x xs acc cs, I (x :: xs) acc cs → ck cs ∧ ∀ W : CsL → Prop, (∀ acc2 cs2, I xs acc2 cs2 → W cs2) → tgD t x (wipeA sl vs) fun sl2 => tt (fun _ _ _ => False) sl2 cs fun k cs3 =>
      if k = true then te (fun _ _ _ => False) sl2 cs3 fun y cs4 => ∃ acc, cs4[n]? = some (.lst acc) ∧ acc.length < sizeLine ∧ W (cs4.set n (.lst (acc ++ [y]))) else W cs3)
    (hn : ∀ acc cs, I [] acc cs → ck cs ∧ Q cs) {ds acc : List D} {cs : CsL} (h0 : I ds acc cs) : lcR ck t tt te vs n ds sl cs Q := by
  unfold lcR
  exact lcD_of I hacc h hn h0
end
/-! ### unfolding -/
section
variable {Ex : ExW} {sl : Sl} {cs : CsL} {Q : DK} {P : EndsD} {d e : D}
@[simp] theorem u_dVar {i : Nat} {d : D} (h : sl[i]? = some (some d)) : dVar i Ex sl cs Q = Q d cs := by unfold dVar; rw [h]
@[simp] theorem u_dC : dC d Ex sl cs Q = Q d cs := rfl
@[simp] theorem u_aNil {Q : List D → CsL → Prop} : aNil Ex sl cs Q = Q [] cs := rfl
@[simp] theorem u_aCons {t : TED} {r : TAD} {Q : List D → CsL → Prop} : aCons t r Ex sl cs Q = t Ex sl cs fun d cs1 => r Ex sl cs1 fun ds cs2 => Q (d :: ds) cs2 := rfl
@[simp] theorem u_dBin {r : R2D} {ta tb : TED} : dBin r ta tb Ex sl cs Q = ta Ex sl cs fun x cs1 => tb Ex sl cs1 fun y cs2 => r x y cs2 Q := rfl
@[simp] theorem u_dTest {t : TED} {Q : Bool → CsL → Prop} : dTest t Ex sl cs Q = t Ex sl cs fun d cs1 => match d with | .bl k => Q k cs1 | _ => False := rfl
@[simp] theorem u_dChain {r r' : R2D} {ta tb tc : TED} : dChain r r' ta tb tc Ex sl cs Q = ta Ex sl cs fun x cs1 => tb Ex sl cs1 fun y cs2 => r x y cs2 fun z cs3 => match z with | .bl true => tc Ex sl cs3 fun u cs4 => r' y u cs4 Q | .bl false => Q (.bl false) cs3 | _ => False := by unfold dChain; rfl
@[simp] theorem u_dAnd {t u : TTD} {Q : Bool → CsL → Prop} : dAnd t u Ex sl cs Q = t Ex sl cs fun k cs1 => if k = true then u Ex sl cs1 Q else Q false cs1 := rfl
@[simp] theorem u_dOr {t u : TTD} {Q : Bool → CsL → Prop} : dOr t u Ex sl cs Q = t Ex sl cs fun k cs1 => if k = true then Q true cs1 else u Ex sl cs1 Q := rfl
@[simp] theorem u_dNot {t : TTD} {Q : Bool → CsL → Prop} : dNot t Ex sl cs Q = t Ex sl cs fun k cs1 => Q (!k) cs1 := rfl
@[simp] theorem u_dAndV {ta tb : TED} : dAndV ta tb Ex sl cs Q = ta Ex sl cs fun d cs1 => match d with | .bl true => tb Ex sl cs1 Q | .bl false => Q (.bl false) cs1 | _ => False := rfl
@[simp] theorem u_dOrV {ta tb : TED} : dOrV ta tb Ex sl cs Q = ta Ex sl cs fun d cs1 => match d with | .bl true => Q (.bl true) cs1 | .bl false => tb Ex sl cs1 Q | _ => False := rfl
@[simp] theorem u_dNotV {ta : TED} : dNotV ta Ex sl cs Q = ta Ex sl cs fun d cs1 => match d with | .bl k => Q (.bl (!k)) cs1 | _ => False := rfl
@[simp] theorem u_dIf {t : TTD} {ta tb : TED} : dIf t ta tb Ex sl cs Q = t Ex sl cs fun k cs1 => if k = true then ta Ex sl cs1 Q else tb Ex sl cs1 Q := rfl
@[simp] theorem u_sNext : sNext Ex sl cs P = P.nx sl cs := rfl
@[simp] theorem u_sSeq {t u : TSD} : sSeq t u Ex sl cs P = t Ex sl cs { P with nx := fun sl1 cs1 => u Ex sl1 cs1 P } := rfl
@[simp] theorem u_sBreak : sBreak Ex sl cs P = P.bk sl cs := rfl
@[simp] theorem u_sCont : sCont Ex sl cs P = P.ct sl cs := rfl
@[simp] theorem u_sDrop {te : TED} : sDrop te Ex sl cs P = te Ex sl cs fun _ cs1 => P.nx sl cs1 := rfl
@[simp] theorem u_sRet {te : TED} : sRet te Ex sl cs P = te Ex sl cs P.rt := rfl
@[simp] theorem u_sRetN : sRetN Ex sl cs P = P.rt .non cs := rfl
@[simp] theorem u_sIf {c : TTD} {t u : TSD} : sIf c t u Ex sl cs P = c Ex sl cs fun b cs1 => if b = true then t Ex sl cs1 P else u Ex sl cs1 P := rfl
@[simp] theorem u_tgName {i : Nat} {Q : Sl → CsL → Prop} : tgName i d sl cs Q = Q (sl.set i (some d)) cs := rfl
@[simp] theorem u_tgNil {Q : Sl → CsL → Prop} : tgNil [] sl cs Q = Q sl cs := rfl
@[simp] theorem u_tgCons {g : TGD} {gs : TGsD} {r : List D} {Q : Sl → CsL → Prop} : tgCons g gs (d :: r) sl cs Q = g d sl cs fun sl1 cs1 => gs r sl1 cs1 Q := rfl
@[simp] theorem u_tgTup {n : Nat} {gs : TGsD} {ds : List D} {Q : Sl → CsL → Prop} : tgTup n gs (.tup ds) sl cs Q = (ds.length = n ∧ gs ds sl cs Q) := rfl
@[simp] theorem u_sAsg {te : TED} {g : TGD} : sAsg te g Ex sl cs P = te Ex sl cs fun d cs1 => g d sl cs1 P.nx := rfl
@[simp] theorem u_sSet {i : Nat} {te : TED} : sSet i te Ex sl cs P = te Ex sl cs fun d cs1 => P.nx (sl.set i (some d)) cs1 := rfl
@[simp] theorem u_sPar {i j : Nat} {ta tb : TED} : sPar i j ta tb Ex sl cs P = ta Ex sl cs fun d cs1 => tb Ex sl cs1 fun e cs2 => P.nx ((sl.set i (some d)).set j (some e)) cs2 := rfl
@[simp] theorem u_dCall {p : PD} {ta : TAD} : dCall p ta Ex sl cs Q = ta Ex sl cs fun ds cs1 => p ds cs1 Q Ex := rfl
@[simp] theorem u_dCallK {n m : Nat} {idx : List Nat} {p : PD} {ta tk : TAD} : dCallK n m idx p ta tk Ex sl cs Q = ta Ex sl cs fun ds cs1 => tk Ex sl cs1 fun es cs2 => ds.length = n ∧ es.length = m ∧ p (pick idx (ds ++ es)) cs2 Q Ex := rfl
@[simp] theorem u_dCallB {r : RLD} {ta : TAD} : dCallB r ta Ex sl cs Q = ta Ex sl cs fun ds cs1 => r ds cs1 Q := rfl
@[simp] theorem u_sRaise {C : Addr} {te : TED} : sRaise C te Ex sl cs P = te Ex sl cs fun d cs1 => Ex C d cs1 := rfl
@[simp] theorem u_dSl {te : TED} {tl th : TOD} : dSl te tl th Ex sl cs Q = te Ex sl cs fun d cs1 => tl Ex sl cs1 fun lo cs2 => th Ex sl cs2 fun hi cs3 => rSlD d lo hi cs3 Q := rfl
@[simp] theorem u_oNone {Q : Option Int → CsL → Prop} : oNone Ex sl cs Q = Q none cs := rfl
@[simp] theorem u_oSome {te : TED} {Q : Option Int → CsL → Prop} : oSome te Ex sl cs Q = te Ex sl cs fun d cs1 => match d with | .int i => Q (some i) cs1 | _ => False := rfl
@[simp] theorem u_dRevL {te : TED} : dRevL te Ex sl cs Q = te Ex sl cs fun d cs1 => ∃ xs, lstOf d cs1 = some xs ∧ Q (.loc cs1.length) (cs1 ++ [.lst xs.reverse]) := rfl
@[simp] theorem u_dTup {tr : TAD} : dTup tr Ex sl cs Q = tr Ex sl cs fun ds cs1 => ds.length ≤ sizeLine ∧ Q (.tup ds) cs1 := rfl
@[simp] theorem u_dLst {tr : TAD} : dLst tr Ex sl cs Q = tr Ex sl cs fun ds cs1 => ds.length ≤ sizeLine ∧ Q (.loc cs1.length) (cs1 ++ [.lst ds]) := rfl
@[simp] theorem u_dNeg {ta : TED} : dNeg ta Ex sl cs Q = ta Ex sl cs fun d cs1 => match d with | .int i => Q (.int (-i)) cs1 | _ => False := rfl
@[simp] theorem u_dMeth {T : String} {r : RMD} {ta : TED} {tr : TAD} : dMeth T r ta tr Ex sl cs Q = ta Ex sl cs fun d cs1 => tyM T d cs1 ∧ tr Ex sl cs1 fun ds cs2 => r d ds cs2 Q := rfl
@[simp] theorem u_dMeth0 {T : String} {r : RMD} {ta : TED} : dMeth0 T r ta Ex sl cs Q = ta Ex sl cs fun d cs1 => tyM T d cs1 ∧ r d [] cs1 Q := rfl
@[simp] theorem u_wAny {te : TED} {Q : List D → (CsL → Prop) → CsL → Prop} : wAny te Ex sl cs Q = te Ex sl cs fun d cs1 => walkOf d cs1 fun ds ck => Q ds ck cs1 := rfl
@[simp] theorem u_sFor {w : TWD} {g : TGD} {b : TSD} : sFor w g b Ex sl cs P = w Ex sl cs fun ds ck cs1 => forD ck g b Ex ds sl cs1 P := rfl
@[simp] theorem u_dLc {w : TWD} {t : Tgt} {tt : TTD} {te : TED} {vs : List Nat} : dLc w t tt te vs Ex sl cs Q = w Ex sl cs fun ds ck cs1 => lcR ck t tt te vs cs1.length ds sl (cs1 ++ [.lst []]) fun cs2 => Q (.loc cs1.length) cs2 := rfl
@[simp] theorem u_tYesD {Q : Bool → CsL → Prop} : tYesD Ex sl cs Q = Q true cs := rfl
@[simp] theorem u_tgDnm {i : Nat} {k : Sl → Prop} : tgD (.nm i) d sl k = k (sl.set i (some d)) := rfl
@[simp] theorem u_dDGet {td ty : TED} : dDGet td ty Ex sl cs Q = td Ex sl cs fun d cs1 => ty Ex sl cs1 fun y cs2 => ∃ k ks ds x, keyOf y = some k ∧ dicOf d cs2 = some (ks, ds) ∧ findK ks ds k = some x ∧ Q x cs2 := rfl
@[simp] theorem u_sDPut {td ty tv : TED} : sDPut td ty tv Ex sl cs P = tv Ex sl cs fun x cs1 => td Ex sl cs1 fun d cs2 => ty Ex sl cs2 fun y cs3 => ∃ k n ks ds, keyOf y = some k ∧ d = .loc n ∧ cs3[n]? = some (.dic ks ds) ∧ ks.length < sizeLine ∧ P.nx sl (cs3.set n (.dic (putKs ks k) (putXs ks ds k x))) := rfl
@[simp] theorem u_rAddI {i j : Int} : rAdd (.int i) (.int j) cs Q = Q (.int (i + j)) cs := rfl
@[simp] theorem u_rSubI {i j : Int} : rSub (.int i) (.int j) cs Q = Q (.int (i - j)) cs := rfl
@[simp] theorem u_rMulI {i j : Int} : rMulD (.int i) (.int j) cs Q = (MulOk i j ∧ Q (.int (i * j)) cs) := rfl
@[simp] theorem u_rFdvI {i j : Int} : rFdiv (.int i) (.int j) cs Q = (CDivW i j ∧ Q (.int (i / j)) cs) := rfl
@[simp] theorem u_rModI {i j : Int} : rMod (.int i) (.int j) cs Q = (0 < j ∧ Q (.int (i % j)) cs) := rfl
@[simp] theorem u_rPowI {i j : Int} : rPow (.int i) (.int j) cs Q = (CPow i j ∧ Q (.int (i ^ j.toNat)) cs) := rfl
@[simp] theorem u_rLtI {i j : Int} : rLt (.int i) (.int j) cs Q = Q (.bl (decide (i < j))) cs := rfl
@[simp] theorem u_rLeI {i j : Int} : rLe (.int i) (.int j) cs Q = Q (.bl (decide (i ≤ j))) cs := rfl
@[simp] theorem u_rGtI {i j : Int} : rGt (.int i) (.int j) cs Q = Q (.bl (decide (j < i))) cs := rfl
@[simp] theorem u_rGeI {i j : Int} : rGe (.int i) (.int j) cs Q = Q (.bl (decide (j ≤ i))) cs := rfl
@[simp] theorem u_rIsN {neg : Bool} : rIsN neg d .non cs Q = Q (.bl (isNon d != neg)) cs := rfl
theorem u_eqI {neg : Bool} {i j : Int} (h : Q (.bl (decide (i = j) != neg)) cs) : rEqvD neg (.int i) (.int j) cs Q := .inr h
theorem u_eqB {neg : Bool} {i j : Bool} (h : Q (.bl (decide (i = j) != neg)) cs) : rEqvD neg (.bl i) (.bl j) cs Q := .inr h
theorem u_eqS {neg : Bool} {i j : Str} (h : Q (.bl (decide (i = j) != neg)) cs) : rEqvD neg (.str i) (.str j) cs Q := .inr h
end
theorem blk_ok {N : List Str} {sc scope : Scope} {own : List (Str × Nat)} (h : decide (scope.kind = ScopeKind.function) && (scope.names.all fun y => decide (scope.names.lookup y.1 = some y.2)) && (own.all fun p => decide (N[p.2]? = some p.1)) && (scope.names.all fun y => !decide (y.2 = .free) || (decide (sc.names.lookup y.1 = some .cell) || decide (sc.names.lookup y.1 = some .free)))
    && (scope.names.all fun y => !(decide (y.2 = .local) || decide (y.2 = .cell)) || (decide (y.1 ∈ own.map (·.1)) || !decide (y.1 ∈ N))) = true) : BlkOk N sc scope own := by
  simp only [Bool.and_eq_true, decide_eq_true_eq, List.all_eq_true, Bool.or_eq_true, Bool.not_eq_true', decide_eq_false_iff_not] at h
  obtain ⟨⟨⟨⟨h1, h2⟩, h3⟩, h4⟩, h5⟩ := h
  refine ⟨h1, h2, h3, fun y hy e => ?_, fun y hy e => ?_⟩
  · rcases h4 y hy with z | z
    · exact absurd e z
    · exact z
  · rcases h5 y hy with z | z
    · exact absurd e (by intro q; rcases q with q | q <;> simp_all)
    · exact z
theorem blk_okP {N : List Str} {sc scope : Scope} {own : List (Str × Nat)} (N' : List Str) (sc' : Scope) (eN : N = N') (es : sc = sc') (h : decide (scope.kind = ScopeKind.function) && (scope.names.all fun y => decide (scope.names.lookup y.1 = some y.2)) && (own.all fun p => decide (N'[p.2]? = some p.1)) && (scope.names.all fun y => !decide (y.2 = .free) || (decide (sc'.names.lookup y.1 = some .cell) || decide (sc'.names.lookup y.1 = some .free)))
    && (scope.names.all fun y => !(decide (y.2 = .local) || decide (y.2 = .cell)) || (decide (y.1 ∈ own.map (·.1)) || !decide (y.1 ∈ N'))) = true) : BlkOk N sc scope own := by
  subst eN es
  exact blk_ok h
end Sim


/-! Sim, part R: a list compared with an empty one. -/
namespace Sim
open PySem PySem.Spec PyProof.Rows L2
def rEmp (K : PySem.W.Frag) (neg : Bool) : R2 := fun x y H Q => ∃ a b xs, x = .ref a ∧ y = .ref b ∧ SqL K H a xs ∧ SqL K H b [] ∧ Q (.bl (xs.isEmpty != neg)) H
section
variable {X : Cx}
theorem op_neEmp (hu : X.A.units < cLine) : OpR X (compareOp .NotEq) (rEmp X.K true) := by
  intro pins s σ H x y v u Q I rx ry h
  obtain ⟨a, b, xs, rfl, rfl, ha, hb, q⟩ := h
  obtain rfl : v = Value.ref a := rx
  obtain rfl : u = Value.ref b := ry
  obtain ⟨its, r1, p1, _⟩ := I.list ha
  obtain ⟨its2, r2, p2, _⟩ := I.list hb
  cases r2
  cases r1 with
  | nil => exact SeqAt.RcNeAt.lists (e := fun _ => true) p1.isList p2.isList rfl hu (fun j h1 _ => absurd h1 (Nat.not_lt_zero j)) X.prog X.w X.xe _ ⟨.bl false, H, I, rfl, q⟩
  | cons r rr => exact SeqAt.RcNeAt.lists_lengths p1.isList p2.isList (by simp) hu X.prog X.w X.xe _ ⟨.bl true, H, I, rfl, q⟩
theorem op_eqEmp (hu : X.A.units < cLine) : OpR X (compareOp .Eq) (rEmp X.K false) := by
  intro pins s σ H x y v u Q I rx ry h
  obtain ⟨a, b, xs, rfl, rfl, ha, hb, q⟩ := h
  obtain rfl : v = Value.ref a := rx
  obtain rfl : u = Value.ref b := ry
  obtain ⟨its, r1, p1, _⟩ := I.list ha
  obtain ⟨its2, r2, p2, _⟩ := I.list hb
  cases r2
  cases r1 with
  | nil => exact SeqAt.eq_listAt (e := fun _ => true) p1.isList p2.isList rfl hu (fun j h1 _ => absurd h1 (Nat.not_lt_zero j)) ⟨.bl true, H, I, rfl, q⟩
  | cons r rr => exact SeqAt.eq_list_lengthsAt p1.isList p2.isList (by simp) hu ⟨.bl false, H, I, rfl, q⟩
end
def rEmpD (neg : Bool) : R2D := fun d e cs Q => ∃ xs, lstOf d cs = some xs ∧ lstOf e cs = some [] ∧ Q (.bl (xs.isEmpty != neg)) cs
theorem opS_emp {K : PySem.W.Frag} {T : Tabl} {neg : Bool} : OpS K T (rEmp K neg) (rEmpD neg) := by
  intro F m H cs d e v u P Q M r1 r2 h k
  obtain ⟨xs, h1, h2, p⟩ := h
  obtain ⟨a, vs, e1, s1, l1⟩ := lstOf_ok M r1 h1
  obtain ⟨b, us, e2, s2, l2⟩ := lstOf_ok M r2 h2
  simp only [RepL] at l2
  subst l2
  refine ⟨a, b, vs, e1, e2, s1, s2, ?_⟩
  have e3 : vs.isEmpty = xs.isEmpty := by
    have := l1.length
    cases xs <;> cases vs <;> simp_all
  rw [e3]
  exact k F m H cs _ _ p M .refl (by simp [Rep])
/-- equality, with the empty list too -/
@[irreducible] def rEqvE (neg : Bool) : R2D := fun d e cs Q => rEmpD neg d e cs Q ∨ rEqvD neg d e cs Q
theorem op_eqE {X : Cx} (hu : X.A.units + 64 < cLine) : OpR X (compareOp .Eq) (fun x y H Q => rEmp X.K false x y H Q ∨ REqD X.K x y H Q) := OpR.or (op_eqEmp (by omega)) (op_eqAD hu)
theorem op_neE {X : Cx} (hu : X.A.units + 64 < cLine) : OpR X (compareOp .NotEq) (fun x y H Q => rEmp X.K true x y H Q ∨ RNeD X.K x y H Q) := OpR.or (op_neEmp (by omega)) (op_neAD hu)
theorem opS_eqE {K : PySem.W.Frag} {T : Tabl} : OpS K T (fun x y H Q => rEmp K false x y H Q ∨ REqD K x y H Q) (rEqvE false) := by unfold rEqvE; exact OpS.or opS_emp opS_eqD
theorem opS_neE {K : PySem.W.Frag} {T : Tabl} : OpS K T (fun x y H Q => rEmp K true x y H Q ∨ RNeD K x y H Q) (rEqvE true) := by unfold rEqvE; exact OpS.or opS_emp opS_neD
section
variable {G : Gx} {k : Nat} {B : Bx} {a b : Expr} {ta tb : TED} {pos : Pos}
theorem sEqE (g : Good G k B) (ha : SimE B a ta) (hb : SimE B b tb) (hm : behindInMarks .Eq b = false := by rfl) : SimE B (.Compare a [.Eq] [b] pos) (dBin (rEqvE false) ta tb) := simE_cmp (op_eqE g.hu) opS_eqE ha hb hm
theorem sNeE (g : Good G k B) (ha : SimE B a ta) (hb : SimE B b tb) (hm : behindInMarks .NotEq b = false := by rfl) : SimE B (.Compare a [.NotEq] [b] pos) (dBin (rEqvE true) ta tb) := simE_cmp (op_neE g.hu) opS_neE ha hb hm
theorem tEqE (g : Good G k B) (ha : SimE B a ta) (hb : SimE B b tb) (hm : behindInMarks .Eq b = false := by rfl) : SimT B (.Compare a [.Eq] [b] pos) (dTest (dBin (rEqvE false) ta tb)) := simT_cmp (op_eqE g.hu) opS_eqE ha hb hm
theorem tNeE (g : Good G k B) (ha : SimE B a ta) (hb : SimE B b tb) (hm : behindInMarks .NotEq b = false := by rfl) : SimT B (.Compare a [.NotEq] [b] pos) (dTest (dBin (rEqvE true) ta tb)) := simT_cmp (op_neE g.hu) opS_neE ha hb hm
end
/-- // by a divisor of either sign -/
def CDivU (_ j : Int) : Prop := j ≠ 0 ∧ j.natAbs.log2 < 9000
theorem op_fdivU1 {X : Cx} : OpR X (binaryOp .FloorDiv) (rI CDivU fun i j => .int (i.fdiv j)) := opI fun i j _ _ _ _ _ hc q => floordiv_int hc.1 q (.inl (PyProof.noPylong_of_log2 hc.2))
@[irreducible] def rFdvU : R2D := fun d e cs Q => rFdiv d e cs Q ∨ (match d, e with | .int i, .int j => CDivU i j ∧ Q (.int (i.fdiv j)) cs | _, _ => False)
theorem op_fdvU {X : Cx} : OpR X (binaryOp .FloorDiv) (fun x y H Q => rI CDivW (fun i j => .int (i / j)) x y H Q ∨ rI CDivU (fun i j => .int (i.fdiv j)) x y H Q) := OpR.or op_fdivW op_fdivU1
theorem opS_fdvU {K : PySem.W.Frag} {T : Tabl} : OpS K T (fun x y H Q => rI CDivW (fun i j => .int (i / j)) x y H Q ∨ rI CDivU (fun i j => .int (i.fdiv j)) x y H Q) rFdvU := by
  unfold rFdvU
  exact OpS.or opS_fdiv (opS_rI fun _ _ _ _ => by simp only [Rep])
theorem sFdvU {B : Bx} {a b : Expr} {ta tb : TED} {pos : Pos} (ha : SimE B a ta) (hb : SimE B b tb) : SimE B (.BinOp a .FloorDiv b pos) (dBin rFdvU ta tb) := simE_op op_fdvU opS_fdvU ha hb
section
variable {cs : CsL} {Q : DK}
theorem e_eqI {neg : Bool} {i j : Int} (h : Q (.bl (decide (i = j) != neg)) cs) : rEqvE neg (.int i) (.int j) cs Q := by unfold rEqvE; exact .inr (.inr h)
theorem e_eqB {neg : Bool} {i j : Bool} (h : Q (.bl (decide (i = j) != neg)) cs) : rEqvE neg (.bl i) (.bl j) cs Q := by unfold rEqvE; exact .inr (.inr h)
theorem e_eqS {neg : Bool} {i j : Str} (h : Q (.bl (decide (i = j) != neg)) cs) : rEqvE neg (.str i) (.str j) cs Q := by unfold rEqvE; exact .inr (.inr h)
theorem e_emp {neg : Bool} {d e : D} {xs : List D} (b : Bool) (h1 : lstOf d cs = some xs) (h2 : lstOf e cs = some []) (hb : (xs.isEmpty != neg) = b) (h : Q (.bl b) cs) : rEqvE neg d e cs Q := by unfold rEqvE; exact .inl ⟨xs, h1, h2, by rw [hb]; exact h⟩
theorem e_dic {neg : Bool} {d e : D} {ks : List Key} {ds : List D} (h1 : dicOf d cs = some (ks, ds)) (h2 : dicOf e cs = some (ks, ds)) (hn : ks.Nodup) (hf : ∀ x ∈ ds, flatD x = true) (h : Q (.bl (!neg)) cs) : rEqvE neg d e cs Q := by unfold rEqvE; exact .inr (.inl ⟨ks, ds, h1, h2, hn, hf, h⟩)
theorem chLeLe {Ex : ExW} {sl : Sl} {ta tb tc : TED} (a b c : Int) (ha : ∀ Q : DK, Q (.int a) cs → ta Ex sl cs Q) (hb : ∀ Q : DK, Q (.int b) cs → tb Ex sl cs Q) (hc : ∀ Q : DK, Q (.int c) cs → tc Ex sl cs Q) (q : Q (.bl (decide (a ≤ b) && decide (b ≤ c))) cs) : dChain rLe rLe ta tb tc Ex sl cs Q := by
  unfold dChain
  refine ha _ (hb _ ?_)
  show (match D.bl (decide (a ≤ b)) with | .bl true => _ | .bl false => _ | _ => False)
  cases h : decide (a ≤ b) with
  | true =>
    refine hc _ ?_
    rw [h, Bool.true_and] at q
    exact q
  | false =>
    rw [h, Bool.false_and] at q
    exact q
theorem chLtLt {Ex : ExW} {sl : Sl} {ta tb tc : TED} (a b c : Int) (ha : ∀ Q : DK, Q (.int a) cs → ta Ex sl cs Q) (hb : ∀ Q : DK, Q (.int b) cs → tb Ex sl cs Q) (hc : ∀ Q : DK, Q (.int c) cs → tc Ex sl cs Q) (q : Q (.bl (decide (a < b) && decide (b < c))) cs) : dChain rLt rLt ta tb tc Ex sl cs Q := by
  unfold dChain
  refine ha _ (hb _ ?_)
  show (match D.bl (decide (a < b)) with | .bl true => _ | .bl false => _ | _ => False)
  cases h : decide (a < b) with
  | true =>
    refine hc _ ?_
    rw [h, Bool.true_and] at q
    exact q
  | false =>
    rw [h, Bool.false_and] at q
    exact q
/-- floor division, the divisor of either sign -/
theorem f_pos {i j : Int} (h : CDivW i j) (q : Q (.int (i / j)) cs) : rFdvU (.int i) (.int j) cs Q := by unfold rFdvU; exact .inl ⟨h, q⟩
theorem f_neg {i j : Int} (h : CDivU i j) (q : Q (.int (i.fdiv j)) cs) : rFdvU (.int i) (.int j) cs Q := by unfold rFdvU; exact .inr ⟨h, q⟩
theorem ift {c : Bool} {A B : Prop} (h1 : c = true → A) (h2 : c = false → B) : if c = true then A else B := by
  cases c with
  | true => exact h1 rfl
  | false => rw [if_neg Bool.false_ne_true]; exact h2 rfl
theorem iftT {c : Bool} {A B : Prop} (h : c = true) (h1 : A) : if c = true then A else B := by rw [if_pos h]; exact h1
theorem iftF {c : Bool} {A B : Prop} (h : c = false) (h1 : B) : if c = true then A else B := by rw [if_neg (by rw [h]; exact Bool.false_ne_true)]; exact h1
theorem on_cell {n : Nat} {xs : List D} {k : Nat → List D → Prop} (h : cs[n]? = some (.lst xs)) (hk : k n xs) : onCell (.loc n) cs k := by simp only [onCell, h]; exact hk
theorem isi {d : D} {t n : String} {cs : CsL} {Q : DK} (h : tyOfD d cs = some t) (hn : ["bool", "int", "str", "tuple", "list", "dict"].contains n = true) (q : Q (.bl (isT t n)) cs) : rIsi [d, .ty n] cs Q := by unfold rIsi; exact ⟨hn, t, h, q⟩
theorem all_bl {bs : List Bool} {d : D} {cs : CsL} {Q : DK} (h : lstOf d cs = some (bs.map D.bl)) (q : Q (.bl (bs.all id)) cs) : Sim.rAll [d] cs Q := by unfold Sim.rAll; exact ⟨bs, h, q⟩
theorem any_bl {bs : List Bool} {d : D} {cs : CsL} {Q : DK} (h : lstOf d cs = some (bs.map D.bl)) (q : Q (.bl (bs.any id)) cs) : Sim.rAny [d] cs Q := by unfold Sim.rAny; exact ⟨bs, h, q⟩
theorem m_pop {n : Nat} {xs : List D} {e : D} (h : cs[n]? = some (.lst xs)) (he : xs[xs.length - 1]? = some e) (q : Q e (cs.set n (.lst xs.dropLast))) : mPop (.loc n) [] cs Q := by unfold mPop; exact on_cell h ⟨e, he, q⟩
theorem m_app {n : Nat} {xs : List D} {e : D} (h : cs[n]? = some (.lst xs)) (hl : xs.length < sizeLine) (q : Q .non (cs.set n (.lst (xs ++ [e])))) : mAppend (.loc n) [e] cs Q := by unfold mAppend; exact on_cell h ⟨hl, q⟩
theorem m_ext {n k : Nat} {xs ys : List D} (h : cs[n]? = some (.lst xs)) (h2 : cs[k]? = some (.lst ys)) (hl : xs.length + ys.length ≤ sizeLine) (q : Q .non (cs.set n (.lst (xs ++ ys)))) : mExtend (.loc n) [.loc k] cs Q := by unfold mExtend; exact on_cell h (on_cell h2 ⟨hl, q⟩)
theorem ty_list {n : Nat} {xs : List D} (h : cs[n]? = some (.lst xs)) : tyM "list" (.loc n) cs := ⟨rfl, xs, by simp only [lstOf, h]⟩
theorem lst_cell {n : Nat} {xs : List D} (h : cs[n]? = some (.lst xs)) : lstOf (.loc n) cs = some xs := by simp only [lstOf, h]
theorem seq_cell {n : Nat} {xs : List D} (h : cs[n]? = some (.lst xs)) : seqOf (.loc n) cs = some xs := by simp only [seqOf, lstOf, h]
theorem lst_new {xs : List D} : lstOf (.loc cs.length) (cs ++ [.lst xs]) = some xs := lst_cell (by simp)
theorem walk_cell {n : Nat} {xs : List D} {k : List D → (CsL → Prop) → Prop} (h : cs[n]? = some (.lst xs)) (hk : k xs fun cs' => cs'[n]? = some (.lst xs)) : walkOf (.loc n) cs k := by simp only [walkOf, h]; exact hk
end

/-! ### comprehensions whose items come from the list's items -/
section
variable {ck : CsL → Prop} {t : Tgt} {tt : TTD} {te : TED} {vs : List Nat} {sl : Sl} {cs : CsL} {Q : CsL → Prop}
abbrev noEx : ExW := fun _ _ _ => False
theorem lc_gen (f : D → List D) (xs : List D) (hl : xs.length ≤ sizeLine) (hf : ∀ x, (f x).length ≤ 1) (hck : ∀ acc, ck (cs ++ [.lst acc]))
    (h : ∀ x ∈ xs, ∀ (acc : List D) (W : CsL → Prop), acc.length < sizeLine → W (cs ++ [.lst (acc ++ f x)]) → tgD t x (wipeA sl vs) fun sl2 => tt noEx sl2 (cs ++ [.lst acc]) fun k cs3 =>
      if k = true then te noEx sl2 cs3 fun y cs4 => ∃ acc, cs4[cs.length]? = some (.lst acc) ∧ acc.length < sizeLine ∧ W (cs4.set cs.length (.lst (acc ++ [y]))) else W cs3)
    (q : Q (cs ++ [.lst (xs.flatMap f)])) : lcR ck t tt te vs cs.length xs sl (cs ++ [.lst []]) Q := by
  refine lcR_of (fun rest acc cs' => ∃ done, xs = done ++ rest ∧ acc = done.flatMap f ∧ cs' = cs ++ [.lst acc]) (fun ds acc cs' ⟨_, _, _, e⟩ => by rw [e]; simp) ?_ ?_ ⟨[], rfl, rfl, rfl⟩
  · rintro x rest acc cs' ⟨done, e1, rfl, rfl⟩
    refine ⟨hck _, fun W hW => ?_⟩
    have hlen : ∀ l : List D, (l.flatMap f).length ≤ l.length := fun l => by
      induction l with
      | nil => simp
      | cons a l ih =>
        rw [List.flatMap_cons, List.length_append, List.length_cons]
        have := hf a
        omega
    have h1 : (done.flatMap f).length < sizeLine := by
      have := hlen done
      have : xs.length = done.length + (rest.length + 1) := by rw [e1, List.length_append, List.length_cons]
      omega
    refine h x (by rw [e1]; simp) _ W h1 (hW _ _ ⟨done ++ [x], by rw [e1]; simp, rfl, by simp⟩)
  · rintro acc cs' ⟨done, e1, rfl, rfl⟩
    refine ⟨hck _, ?_⟩
    rw [List.append_nil] at e1
    rw [← e1]
    exact q
theorem lc_map (g : D → D) {i : Nat} (xs : List D) (hl : xs.length ≤ sizeLine) (hck : ∀ acc, ck (cs ++ [.lst acc]))
    (h : ∀ x ∈ xs, ∀ (acc : List D) (Q : DK), Q (g x) (cs ++ [.lst acc]) → te noEx ((wipeA sl vs).set i (some x)) (cs ++ [.lst acc]) Q)
    (q : Q (cs ++ [.lst (xs.map g)])) : lcR ck (.nm i) tYesD te vs cs.length xs sl (cs ++ [.lst []]) Q := by
  refine lc_gen (fun x => [g x]) xs hl (fun _ => Nat.le_refl _) hck (fun x hx acc W hl hW => ?_) ?_
  · show te _ _ _ _
    exact h x hx acc _ ⟨acc, by simp, hl, by simpa using hW⟩
  · rw [← List.map_eq_flatMap]
    exact q
theorem tyOfD_app {d : D} {G : CsL} {t : String} (h : tyOfD d cs = some t) : tyOfD d (cs ++ G) = some t := by
  cases d with
  | loc n =>
    simp only [tyOfD] at h ⊢
    cases hc : cs[n]? with
    | none => rw [hc] at h; cases h
    | some c =>
      rw [List.getElem?_append_left (List.getElem?_eq_some_iff.mp hc).1]
      rw [hc] at h ⊢
      exact h
  | _ => exact h
end
end Sim


/-! Sim, part S: the rule of a def whose code object is known; the law's start. -/
namespace Sim
open PySem PySem.Spec PyProof.Rows L2 LamX
/-- the rule of a def, its code object told -/
theorem def_fn {G : Gx} {k : Nat} {x qual : Str} {st : Stmt} {N ps : List Str} {p : PD} {f : Addr} {kV doc pm cdv ct oc : Value} {an od : Option Addr} {osl : Array (Option Value)}
    (lk : G.K.lookup f = some ⟨oc, od, .func (PySem.W.fnOf x qual (defArgs st) (defBody st) (defScope st) .none kV doc pm an cdv ct), osl⟩) (hcd : PySem.W.codeIn G.K cdv qual = true) (S : FnScope N ps (defScope st)) (hlen : ∀ ds cs P Ex, p ds cs P Ex → ds.length = ps.length)
    (hb : ∀ (A : Around) (outer : List Env) (s : Shared) (H : Hp) (E : XK) (F : Hp) (m : List Addr), Good G k (bxOf G N qual (defScope st) f cdv A outer s H E F m) →
      ∃ t, SimSs (bxOf G N qual (defScope st) f cdv A outer s H E F m) (defBody st) t ∧ ∀ ds cs P Ex, BelL cs.length ds → (∀ c ∈ cs, BelC cs.length c) → p ds cs P Ex →
        t (ExD G.K G.T cs.length Ex) (startD N ds) cs { nx := fun _ cs' => RetD G.K G.T cs.length P .non cs', rt := RetD G.K G.T cs.length P }) :
    FnOk G.P G.w G.K G.mg G.base (L2.CX G.P G.w) (k + 1) f (PySem.W.fnOf x qual (defArgs st) (defBody st) (defScope st) .none kV doc pm an cdv ct) ps (spD G.K G.T p) := by
  refine fn_of (N := N) lk hcd S (fun vs H Q E ⟨F, m, cs, ds, P, Ex, M, r, q, k, X⟩ => by rw [← r.length]; exact hlen ds cs P Ex q) fun A outer s H vs Q E hr ⟨F, m, cs, ds, P, Ex, M, r, q, k, X⟩ => ?_
  have good : Good G _ (bxOf G N qual (defScope st) f cdv A outer s H E F m) := ⟨⟨rfl, rfl, rfl, rfl, rfl, rfl⟩, rfl, S.nd, hr, passes_call takes_cx fun _ _ _ _ h => h⟩
  obtain ⟨t, ht, hq⟩ := hb A outer s H E F m good
  have bel := RepL.bel ds vs r
  rw [M.len] at bel
  have h := hq ds cs P Ex bel (fun c hc => by
    obtain ⟨i, hi, e⟩ := List.mem_iff_getElem.mp hc
    have := M.bel (k := i) (c := c) (by rw [List.getElem?_eq_getElem hi, e])
    rwa [M.len] at this) q
  refine ⟨_, ht, F, m, cs, startD N ds, _, _, ⟨M, .refl, startD_rel N r⟩, ?_, h, ?_, ?_, ?_, ?_⟩
  · intro C d cs' F' m' H' v dx ⟨d', cs2, L, e⟩ M' g r' hd
    obtain ⟨F2, m2, M2, g2, r2⟩ := L F m H F' m' H' v cs M.len M M' g r'
    exact X C d' cs2 F2 m2 H' v dx e M2 g2 r2 hd
  · intro F' m' H' cs' sl' σ' ⟨d', cs2, L, e⟩ A' g
    obtain ⟨F2, m2, M2, g2, r2⟩ := L F m H F' m' H' .non cs M.len M A'.mem g (by simp only [Rep])
    exact k F2 m2 H' cs2 d' .non e M2 g2 r2
  · intro F' m' H' cs' d v ⟨d', cs2, L, e⟩ M' g r'
    obtain ⟨F2, m2, M2, g2, r2⟩ := L F m H F' m' H' v cs M.len M M' g r'
    exact k F2 m2 H' cs2 d' v e M2 g2 r2
  · intro F' m' H' cs' sl' σ' p A' g
    exact p.elim
  · intro F' m' H' cs' sl' σ' p A' g
    exact p.elim
/-- what a law promises: the script as a list that stays -/
def lawPD : PD := fun ds cs P _ => ∃ ns : List Int, ds = [.lst (ns.map D.int)] ∧ ns.length ≤ 63 ∧ cs = [] ∧ ∀ cs', P (.bl true) cs'
/-- a law's start -/
theorem law_start {K : PySem.W.Frag} {T : Tabl} {H : Hp} {a : Addr} {ns : List Int} (hl : ns.length ≤ 63) (ht : LamX.Tabs T H) (hS : SqL K H a (ns.map V.int)) : spD K T lawPD [.ref a] H (fun v _ => v = .bl true) fun _ _ _ => False := by
  classical
  refine ⟨fun b => match H b with | some (.tbl _) => none | o => o, [], [], [.lst (ns.map D.int)], fun d _ => d = .bl true, fun _ _ _ => False, ⟨?_, rfl, .nil, ?_, ?_, ?_, ht⟩, ?_, ⟨ns, rfl, hl, rfl, fun _ => rfl⟩, ?_, ?_⟩
  · intro b o e
    try dsimp only at e
    split at e
    · cases e
    · exact e
  · intro n b c e
    simp at e
  · intro b hb
    cases hb
  · intro b ps e
    try dsimp only at e
    split at e
    · cases e
    · rename_i h
      exact h _ e
  · refine .cons ?_ .nil
    simp only [Rep]
    refine ⟨a, ns.map V.int, rfl, ?_, RepL.ints ns⟩
    rcases hS with (h | ⟨o, h⟩) | h
    · exact .inl (.inl (by dsimp only; rw [h]))
    · exact .inl (.inr ⟨o, by dsimp only; rw [h]⟩)
    · exact .inr h
  · intro F' m' H' cs' d v e M g r
    subst e
    simp only [Rep] at r
    exact r
  · intro C d cs F' m' H' v dx h
    exact h.elim
end Sim


/-! The helpers of the laws k00 to k09: the readings. -/
namespace Kit0
open PySem PySem.Spec PyProof.Rows L2 Sim
def t__law_draw : TSD := sSeq (sDPut (dVar 0) (dC (.str "draws")) (dBin rAdd (dDGet (dVar 0) (dC (.str "draws"))) (dC (.int 1))))
 (sSeq (sSet 2 (dBin rAdd (dDGet (dVar 0) (dC (.str "mixed"))) (dBin rMulD (dC (.int 62089)) (dDGet (dVar 0) (dC (.str "draws"))))))
 (sSeq (sIf (dTest (dBin (rEqvE true) (dDGet (dVar 0) (dC (.str "cells"))) (dLst aNil)))
 (sSeq (sSet 3 (dMeth0 "list" mPop (dDGet (dVar 0) (dC (.str "cells")))))
 (sSeq (sIf (dTest (dBin rGe (dVar 3) (dBin rPow (dC (.int 10)) (dC (.int 18)))))
 (sSeq (sDrop (dMeth "list" mAppend (dDGet (dVar 0) (dC (.str "cells"))) (aCons (dBin rFdvU (dVar 3) (dCallB rMax2 (aCons (dC (.int 2)) (aCons (dVar 1) aNil)))) aNil)))
 (sRet (dBin rMod (dCallB rInt1 (aCons (dVar 3) aNil)) (dVar 1))))
 (sNext))
 (sSet 2 (dBin rAdd (dVar 2) (dBin rMod (dCallB rInt1 (aCons (dVar 3) aNil)) (dC (.int 2147483629)))))))
 (sNext))
 (sSeq (sSet 2 (dBin rMod (dCallB rInt1 (aCons (dBin rAdd (dBin rMulD (dVar 2) (dC (.int 40014))) (dC (.int 91))) aNil)) (dC (.int 2147483563))))
 (sSeq (sSet 2 (dBin rMod (dCallB rInt1 (aCons (dBin rAdd (dBin rAdd (dBin rMulD (dVar 2) (dVar 2)) (dBin rMulD (dC (.int 53668)) (dDGet (dVar 0) (dC (.str "draws"))))) (dC (.int 17))) aNil)) (dC (.int 2147483399))))
 (sSeq (sSet 2 (dBin rMod (dCallB rInt1 (aCons (dBin rMulD (dVar 2) (dC (.int 40692))) aNil)) (dC (.int 2147483647))))
 (sRet (dBin rMod (dCallB rInt1 (aCons (dBin rFdvU (dVar 2) (dC (.int 64))) aNil)) (dVar 1))))))))

/-- a deck: its dict at dk, its list of cells at ck -/
structure DeckIs (dk ck : Nat) (cells : List Int) (mixed draws : Int) (cs : CsL) : Prop where
  d : cs[dk]? = some (.dic [.inr "cells", .inr "mixed", .inr "draws"] [.loc ck, .int mixed, .int draws])
  c : cs[ck]? = some (.lst (cells.map D.int))
  n : cells.length ≤ 63
def DeckAt (dk ck : Nat) (cs : CsL) : Prop := ∃ cells mixed draws, DeckIs dk ck cells mixed draws cs
/-- but for the deck's cells -/
def SameBut (dk ck : Nat) (cs cs' : CsL) : Prop := cs'.length = cs.length ∧ ∀ i, i ≠ dk → i ≠ ck → cs'[i]? = cs[i]?
def p__law_draw : PD := fun ds cs P Ex => ∃ (dk ck : Nat) (many : Int), ds = [.loc dk, .int many] ∧ DeckAt dk ck cs ∧ 1 ≤ many ∧ many.natAbs.log2 < 9000 ∧ ∀ (r : Int) (cs' : CsL), 0 ≤ r → r < many → DeckAt dk ck cs' → SameBut dk ck cs cs' → P (.int r) cs'
abbrev K3 : List Key := [.inr "cells", .inr "mixed", .inr "draws"]
section
variable {dk ck : Nat} {cells : List Int} {mixed draws : Int} {cs cs' : CsL}
theorem DeckIs.ne (Dk : DeckIs dk ck cells mixed draws cs) : dk ≠ ck := fun z => by
  have h1 := Dk.d
  have h2 := Dk.c
  rw [z, h2] at h1
  cases h1
theorem DeckIs.dic (Dk : DeckIs dk ck cells mixed draws cs) : dicOf (.loc dk) cs = some (K3, [.loc ck, .int mixed, .int draws]) := by
  simp only [dicOf, Dk.d]
theorem DeckIs.lt1 (Dk : DeckIs dk ck cells mixed draws cs) : dk < cs.length := (List.getElem?_eq_some_iff.mp Dk.d).1
theorem DeckIs.lt2 (Dk : DeckIs dk ck cells mixed draws cs) : ck < cs.length := (List.getElem?_eq_some_iff.mp Dk.c).1
theorem kCells : keyOf (.str "cells") = some (.inr "cells") := rfl
theorem kMixed : keyOf (.str "mixed") = some (.inr "mixed") := rfl
theorem kDraws : keyOf (.str "draws") = some (.inr "draws") := rfl
theorem fCells {a b c : D} : findK K3 [a, b, c] (.inr "cells") = some a := by rfl
theorem fMixed {a b c : D} : findK K3 [a, b, c] (.inr "mixed") = some b := by rfl
theorem fDraws {a b c : D} : findK K3 [a, b, c] (.inr "draws") = some c := by rfl
theorem putDk : putKs K3 (.inr "draws") = K3 := by rfl
theorem putDx {a b c d : D} : putXs K3 [a, b, c] (.inr "draws") d = [a, b, d] := by rfl
theorem DeckIs.put (Dk : DeckIs dk ck cells mixed draws cs) (n : Int) : DeckIs dk ck cells mixed n (cs.set dk (.dic K3 [.loc ck, .int mixed, .int n])) :=
  ⟨List.getElem?_set_self Dk.lt1, by rw [List.getElem?_set_ne Dk.ne]; exact Dk.c, Dk.n⟩
theorem DeckIs.lst (Dk : DeckIs dk ck cells mixed draws cs) (l : List Int) (h : l.length ≤ 63) : DeckIs dk ck l mixed draws (cs.set ck (.lst (l.map D.int))) :=
  ⟨by rw [List.getElem?_set_ne Dk.ne.symm]; exact Dk.d, List.getElem?_set_self Dk.lt2, h⟩
theorem DeckIs.app (Dk : DeckIs dk ck cells mixed draws cs) (G : CsL) : DeckIs dk ck cells mixed draws (cs ++ G) :=
  ⟨by rw [List.getElem?_append_left Dk.lt1]; exact Dk.d, by rw [List.getElem?_append_left Dk.lt2]; exact Dk.c, Dk.n⟩
theorem SameBut.refl : SameBut dk ck cs cs := ⟨rfl, fun _ _ _ => rfl⟩
theorem SameBut.trans {cs''} (h : SameBut dk ck cs cs') (h' : SameBut dk ck cs' cs'') : SameBut dk ck cs cs'' := ⟨h'.1.trans h.1, fun i a b => (h'.2 i a b).trans (h.2 i a b)⟩
theorem SameBut.set1 (c : Cell) : SameBut dk ck cs (cs.set dk c) := ⟨List.length_set, fun i a b => List.getElem?_set_ne a.symm⟩
theorem SameBut.set2 (c : Cell) : SameBut dk ck cs (cs.set ck c) := ⟨List.length_set, fun i a b => List.getElem?_set_ne b.symm⟩
theorem isRange {r many : Int} (h : 1 ≤ many) : 0 ≤ r % many ∧ r % many < many := ⟨Int.emod_nonneg _ (by omega), Int.emod_lt_of_pos _ (by omega)⟩
theorem mulC {i j : Int} (h : -(2 ^ 64) < i ∧ i < 2 ^ 64) : MulOk i j := .inl (.inl h)
theorem mulC2 {i j : Int} (h : -(2 ^ 64) < j ∧ j < 2 ^ 64) : MulOk i j := .inl (.inr h)
end
theorem read_draw {Ex : ExW} {cs : CsL} {P : EndsD} {dk ck : Nat} {cells : List Int} {mixed draws many : Int} (Dk : DeckIs dk ck cells mixed draws cs) (h1 : 1 ≤ many) (h2 : many.natAbs.log2 < 9000)
    (k : ∀ (r : Int) (cs' : CsL) (G : CsL), 0 ≤ r → r < many → DeckAt dk ck cs' → SameBut dk ck cs cs' → P.rt (.int r) (cs' ++ G)) : t__law_draw Ex [some (.loc dk), some (.int many), none, none] cs P := by
  have tail : ∀ {n0 : Int} {d : Option D} {cs1 G : CsL} {cells draws}, DeckIs dk ck cells mixed draws cs1 → SameBut dk ck cs cs1 →
      (sSeq (sSet 2 (dBin rMod (dCallB rInt1 (aCons (dBin rAdd (dBin rMulD (dVar 2) (dC (.int 40014))) (dC (.int 91))) aNil)) (dC (.int 2147483563))))
 (sSeq (sSet 2 (dBin rMod (dCallB rInt1 (aCons (dBin rAdd (dBin rAdd (dBin rMulD (dVar 2) (dVar 2)) (dBin rMulD (dC (.int 53668)) (dDGet (dVar 0) (dC (.str "draws"))))) (dC (.int 17))) aNil)) (dC (.int 2147483399))))
 (sSeq (sSet 2 (dBin rMod (dCallB rInt1 (aCons (dBin rMulD (dVar 2) (dC (.int 40692))) aNil)) (dC (.int 2147483647))))
 (sRet (dBin rMod (dCallB rInt1 (aCons (dBin rFdvU (dVar 2) (dC (.int 64))) aNil)) (dVar 1)))))) Ex [some (.loc dk), some (.int many), some (.int n0), d] (cs1 ++ G) P := by
    intro n0 d cs1 G cells draws D1 S1
    refine ⟨mulC2 (by decide), by decide, ?_⟩
    generalize hn : (n0 * 40014 + 91) % 2147483563 = n1
    have b1 : 0 ≤ n1 ∧ n1 < 2147483563 := by rw [← hn]; exact isRange (by decide)
    refine ⟨mulC ⟨by omega, by omega⟩, _, _, _, _, kDraws, (D1.app G).dic, fDraws, mulC (by decide), by decide, mulC2 (by decide), by decide, f_pos ⟨by decide, by decide⟩ ?_⟩
    exact ⟨by omega, k _ cs1 G (isRange h1).1 (isRange h1).2 ⟨_, _, _, D1⟩ S1⟩
  unfold t__law_draw
  refine ⟨_, _, _, _, kDraws, Dk.dic, fDraws, _, _, _, _, kDraws, rfl, Dk.d, by decide, ?_⟩
  rw [putDk, putDx]
  have D1 := Dk.put (draws + 1)
  have S1 : SameBut dk ck cs (cs.set dk (.dic K3 [.loc ck, .int mixed, .int (draws + 1)])) := .set1 _
  generalize cs.set dk (.dic K3 [.loc ck, .int mixed, .int (draws + 1)]) = cs1 at D1 S1
  refine ⟨_, _, _, _, kMixed, D1.dic, fMixed, _, _, _, _, kDraws, D1.dic, fDraws, mulC (by decide), ?_⟩
  refine ⟨_, _, _, _, kCells, D1.dic, fCells, Nat.zero_le _, ?_⟩
  have D2 := D1.app [.lst []]
  rcases List.eq_nil_or_concat cells with e | ⟨init, c, e⟩
  · subst e
    exact e_emp false (lst_cell D2.c) lst_new rfl (tail (G := [.lst []]) D1 S1)
  subst e
  rw [List.concat_eq_append] at *
  refine e_emp true (lst_cell D2.c) lst_new (by simp) ?_
  have hn := D1.n
  rw [List.length_append, List.length_singleton] at hn
  have el : ((init ++ [c]).map D.int)[((init ++ [c]).map D.int).length - 1]? = some (.int c) := by simp
  refine ⟨_, _, _, _, kCells, D2.dic, fCells, ty_list D2.c, m_pop D2.c el ?_⟩
  have ed : ((init ++ [c]).map D.int).dropLast = init.map D.int := by simp
  rw [ed, List.set_append_left _ _ D1.lt2]
  have D3 := D1.lst init (by omega)
  have S3 : SameBut dk ck cs (cs1.set ck (.lst (init.map D.int))) := S1.trans (.set2 _)
  generalize cs1.set ck (.lst (init.map D.int)) = cs2 at D3 S3
  have D4 := D3.app [.lst []]
  refine ⟨⟨by decide, by decide, by decide⟩, ift (fun hc => ?_) (fun hc => ?_)⟩
  · refine ⟨_, _, _, _, kCells, D4.dic, fCells, ty_list D4.c, f_pos ⟨?_, ?_⟩ ?_⟩
    · split <;> omega
    · split
      · exact h2
      · decide
    refine m_app D4.c ?_ ?_
    · rw [List.length_map, sizeLine_eq]
      omega
    · have em : init.map D.int ++ [D.int (c / (if many > 2 then many else 2))] = (init ++ [c / (if many > 2 then many else 2)]).map D.int := by simp
      rw [em, List.set_append_left _ _ D3.lt2]
      exact ⟨by omega, k _ _ [.lst []] (isRange h1).1 (isRange h1).2 ⟨_, _, _, D3.lst _ (by rw [List.length_append, List.length_singleton]; omega)⟩ (S3.trans (.set2 _))⟩
  · exact ⟨by decide, tail (G := [.lst []]) D3 S3⟩
end Kit0


/-! The helpers of the laws k00 to k09: the deck made, one picked. -/
namespace Kit0
open PySem PySem.Spec PyProof.Rows L2 Sim
/-- the end of a def that has drawn -/
theorem ret_deck {K : PySem.W.Frag} {T : Tabl} {dk ck : Nat} {cs cs' G : CsL} {d : D} {P : DK} (hb : ∀ c ∈ cs, BelC cs.length c) (A : DeckAt dk ck cs') (S : SameBut dk ck cs cs') (hd : Bel cs.length d) (q : P d cs') : RetD K T cs.length P d (cs' ++ G) := by
  refine ⟨d, cs', ?_, q⟩
  rw [← S.1] at hd ⊢
  refine lands_same hd fun c hc => ?_
  obtain ⟨cells, mixed, draws, Dk⟩ := A
  obtain ⟨i, hi, e⟩ := List.mem_iff_getElem.mp hc
  have ei : cs'[i]? = some c := by rw [List.getElem?_eq_getElem hi, e]
  by_cases h1 : i = dk
  · subst h1
    rw [Dk.d] at ei
    cases ei
    simp only [BelC, BelL, Bel]
    exact ⟨Dk.lt2, trivial, trivial, trivial⟩
  by_cases h2 : i = ck
  · subst h2
    rw [Dk.c] at ei
    cases ei
    refine BelL.of fun d hd => ?_
    obtain ⟨z, _, e⟩ := List.mem_map.mp hd
    rw [← e]
    simp only [Bel]
  rw [S.2 i h1 h2] at ei
  have := hb c (List.mem_of_getElem? ei)
  rwa [← S.1] at this
/-! ### pick -/
/-- what is picked from: its items -/
inductive ItemsAre (dk ck : Nat) (cs : CsL) : D → List D → Prop
  | str (z : Str) : z.length ≤ sizeLine → ItemsAre dk ck cs (.str z) (z.cps.toList.map fun c => .str ⟨#[c]⟩)
  | tup (xs : List D) : ItemsAre dk ck cs (.tup xs) xs
  | lst (xs : List D) : ItemsAre dk ck cs (.lst xs) xs
  | loc (n : Nat) (xs : List D) : n ≠ dk → n ≠ ck → cs[n]? = some (.lst xs) → ItemsAre dk ck cs (.loc n) xs
section
variable {dk ck : Nat} {cs cs' : CsL} {d : D} {xs : List D}
theorem ItemsAre.len (h : ItemsAre dk ck cs d xs) : lenD d cs = some xs.length := by
  cases h with
  | str z hz =>
    simp only [lenD]
    rw [if_pos hz]
    simp [Str.length]
  | tup xs => simp [lenD, seqOf]
  | lst xs => simp [lenD, seqOf, lstOf]
  | loc n xs h1 h2 h3 => simp [lenD, seqOf, lstOf, h3]
theorem ItemsAre.bel (h : ItemsAre dk ck cs d xs) (hd : Bel cs.length d) (hb : ∀ c ∈ cs, BelC cs.length c) : ∀ x ∈ xs, Bel cs.length x := by
  cases h with
  | str z hz =>
    intro x hx
    obtain ⟨c, _, e⟩ := List.mem_map.mp hx
    rw [← e]
    simp only [Bel]
  | tup xs => simp only [Bel] at hd; exact hd.all
  | lst xs => simp only [Bel] at hd; exact hd.all
  | loc n xs h1 h2 h3 =>
    have := hb _ (List.mem_of_getElem? h3)
    exact BelL.all this
theorem atI_pos {α : Type} {xs : List α} {r : Int} (h0 : 0 ≤ r) (h1 : r < xs.length) : atI xs r = some (xs[r.toNat]'(by omega)) := by
  unfold atI ixN
  rw [if_pos h0, if_pos h1]
  simp only [Option.bind_some]
  exact List.getElem?_eq_getElem _
theorem ItemsAre.ix (h : ItemsAre dk ck cs d xs) (S : SameBut dk ck cs cs') {r : Int} (h0 : 0 ≤ r) (h1 : r < xs.length) {Q : DK} (q : ∀ x ∈ xs, Q x cs') : rIxD d (.int r) cs' Q := by
  cases h with
  | str z hz =>
    rw [List.length_map] at h1
    refine ⟨hz, _, atI_pos h0 h1, q _ (List.mem_map.mpr ⟨_, List.getElem_mem _, rfl⟩)⟩
  | tup xs => exact ⟨xs, _, rfl, atI_pos h0 h1, q _ (List.getElem_mem _)⟩
  | lst xs => exact ⟨xs, _, rfl, atI_pos h0 h1, q _ (List.getElem_mem _)⟩
  | loc n xs h1' h2 h3 => exact ⟨xs, _, seq_cell (by rw [S.2 n h1' h2]; exact h3), atI_pos h0 h1, q _ (List.getElem_mem _)⟩
end
def t__law_pick : TSD := sRet (dBin rIxD (dVar 1) (dCall p__law_draw (aCons (dVar 0) (aCons (dCallB rLen (aCons (dVar 1) aNil)) aNil))))
def p__law_pick : PD := fun ds cs P Ex => ∃ (dk ck : Nat) (d : D) (xs : List D), ds = [.loc dk, d] ∧ DeckAt dk ck cs ∧ ItemsAre dk ck cs d xs ∧ xs ≠ [] ∧ xs.length < 1000000 ∧ ∀ x cs', x ∈ xs → DeckAt dk ck cs' → SameBut dk ck cs cs' → P x cs'
theorem small_log {n : Nat} (h : n < 1000000) : (n : Int).natAbs.log2 < 9000 := by
  rw [Int.natAbs_natCast]
  by_cases h0 : n = 0
  · subst h0; decide
  · exact (Nat.log2_lt h0).mpr (Nat.lt_trans h (Nat.lt_of_lt_of_le (by decide : 1000000 < 2 ^ 20) (Nat.pow_le_pow_right (by decide) (by decide))))
theorem read_pick {Ex : ExW} {cs : CsL} {P : EndsD} {dk ck : Nat} {d : D} {xs : List D} (A : DeckAt dk ck cs) (I : ItemsAre dk ck cs d xs) (hn : xs ≠ []) (hl : xs.length < 1000000) (k : ∀ x cs', x ∈ xs → DeckAt dk ck cs' → SameBut dk ck cs cs' → P.rt x cs') :
    t__law_pick Ex [some (.loc dk), some d] cs P := by
  have hp : 0 < xs.length := List.length_pos_iff.mpr hn
  refine ⟨_, I.len, dk, ck, _, rfl, A, by omega, small_log hl, fun r cs' h0 h1 A' S' => ?_⟩
  exact I.ix S' h0 h1 fun x hx => k x cs' hx A' S'
/-! ### deck -/
def t_deck (seed : Int) : TSD := sSeq (sSet 1 (dC (.int seed)))
 (sSeq (sFor (wAny (dSl (dVar 0) oNone (oSome (dC (.int 63))))) (tgName 2)
 (sSet 1 (dBin rMod (dCallB rInt1 (aCons (dBin rAdd (dBin rAdd (dBin rMulD (dVar 1) (dC (.int 48271))) (dBin rMod (dCallB rInt1 (aCons (dVar 2) aNil)) (dC (.int 2147483629)))) (dC (.int 11))) aNil)) (dC (.int 2147483587)))))
 (sRet (dDisp [((dC (.str "cells")), (dRevL (dCallB rList (aCons (dSl (dVar 0) oNone (oSome (dC (.int 63)))) aNil)))), ((dC (.str "mixed")), (dVar 1)), ((dC (.str "draws")), (dC (.int 0)))])))
def p__law_deck : PD := fun ds cs P Ex => ∃ ns : List Int, ds = [.lst (ns.map D.int)] ∧ ns.length ≤ 63 ∧ ∀ c1 c2, DeckAt cs.length (cs.length + 1) (cs ++ [c1, c2]) → P (.loc cs.length) (cs ++ [c1, c2])
theorem cut63 {α : Type} {xs : List α} (h : xs.length ≤ 63) : cutA xs none (some 63) = xs := by
  refine cutA_whole xs none (some 63) ⟨rfl, ?_⟩
  simp only [HT.sIx]
  rw [if_neg (by decide)]
  exact Nat.min_eq_right h
theorem merge3 {a b c : D} : mergeD [] [] [.str "cells", a, .str "mixed", b, .str "draws", c] = some (K3, [a, b, c]) := by rfl
theorem read_deck {K : PySem.W.Frag} {T : Tabl} {Ex : ExW} {cs : CsL} {P : DK} {seed : Int} {ns : List Int} (h63 : ns.length ≤ 63) (hb : ∀ c ∈ cs, BelC cs.length c) (k : ∀ c1 c2, DeckAt cs.length (cs.length + 1) (cs ++ [c1, c2]) → P (.loc cs.length) (cs ++ [c1, c2])) :
    t_deck seed Ex [some (.lst (ns.map D.int)), none, none] cs { nx := fun _ cs' => RetD K T cs.length P .non cs', rt := RetD K T cs.length P } := by
  have h63' : (ns.map D.int).length ≤ 63 := by rw [List.length_map]; exact h63
  refine ⟨_, rfl, ?_⟩
  rw [cut63 h63']
  refine walk_cell (xs := ns.map D.int) (by simp) ?_
  refine forD_of (fun rest sl cs2 => (∃ l : List Int, rest = l.map D.int) ∧ cs2 = cs ++ [.lst (ns.map D.int)] ∧ ∃ (s : Int) (o : Option D), sl = [some (.lst (ns.map D.int)), some (.int s), o]) ?_ ?_ ⟨⟨ns, rfl⟩, rfl, seed, none, rfl⟩
  · rintro x xs sl cs2 ⟨⟨l, e⟩, rfl, s, o, rfl⟩
    cases l with
    | nil => cases e
    | cons z l =>
      cases e
      refine ⟨by simp, fun W hW => ?_⟩
      exact ⟨mulC2 (by decide), by decide, by decide, hW _ _ ⟨⟨l, rfl⟩, rfl, _, _, rfl⟩⟩
  · rintro sl cs2 ⟨_, rfl, s, o, rfl⟩
    refine ⟨by simp, ?_⟩
    have e1 : (cs ++ [Cell.lst (ns.map D.int)]).length = cs.length + 1 := by simp
    refine ⟨_, rfl, ?_⟩
    rw [cut63 h63']
    refine ⟨_, seq_cell (xs := ns.map D.int) (by simp), ?_⟩
    refine ⟨_, lst_cell (xs := ns.map D.int) (by simp), ?_⟩
    have em : (ns.map D.int).reverse = ns.reverse.map D.int := by simp
    rw [em]
    refine ⟨by simp, (by show 6 ≤ 30; decide), _, _, merge3, ?_⟩
    generalize hG : List.set _ _ _ = cs3
    have e3 : cs3 = cs ++ [.lst (ns.map D.int), .dic K3 [.loc (cs.length + 4), .int s, .int 0], .lst (ns.map D.int), .lst (ns.map D.int), .lst (ns.reverse.map D.int)] := by
      rw [← hG]
      simp
    rw [e3]
    refine ⟨.loc cs.length, cs ++ [.dic K3 [.loc (cs.length + 1), .int s, .int 0], .lst (ns.reverse.map D.int)], ?_, k _ _ ⟨ns.reverse, s, 0, by simp, by simp, by simpa using h63⟩⟩
    have L := lands_keep (K := K) (T := T) (n := cs.length) (cs := cs ++ [.lst (ns.map D.int), .dic K3 [.loc (cs.length + 4), .int s, .int 0], .lst (ns.map D.int), .lst (ns.map D.int), .lst (ns.reverse.map D.int)]) [cs.length + 1, cs.length + 4] 2 (d := .loc (cs.length + 1)) (by simp) (by simp) ?_ (by simp) ?_ ?_
    · have n1 : ¬ (cs.length + 1 < cs.length) := by omega
      have n4 : ¬ (cs.length + 4 < cs.length) := by omega
      have fi : ∀ l : List Int, (l.map D.int).map (froz cs.length [cs.length + 1, cs.length + 4] (cs ++ [.lst (ns.map D.int), .dic K3 [.loc (cs.length + 4), .int s, .int 0], .lst (ns.map D.int), .lst (ns.map D.int), .lst (ns.reverse.map D.int)]) 2) = l.map D.int := fun l => by
        rw [List.map_map]
        exact List.map_congr_left fun z _ => by simp [froz]
      simpa [froz, frozC, pos?, List.getD_eq_getElem?_getD, n1, n4, fi, -List.map_map, -List.map_reverse] using L
    · have n1 : ¬ (cs.length + 1 < cs.length) := by omega
      simp [froz, pos?, Bel, n1]
    · intro i c hi e
      rw [List.getElem?_append_left hi] at e
      exact hb _ (List.mem_of_getElem? e)
    · intro i c hi e
      have n4 : ¬ (cs.length + 4 < cs.length) := by omega
      rcases List.mem_cons.mp hi with e1 | e1
      · subst e1
        have e2 : c = .dic K3 [.loc (cs.length + 4), .int s, .int 0] := by simpa using e.symm
        subst e2
        simp [frozC, froz, pos?, BelC, BelL, Bel, n4]
      · have e1' := List.mem_singleton.mp e1
        subst e1'
        have e2 : c = .lst (ns.reverse.map D.int) := by simpa using e.symm
        subst e2
        refine BelL.of fun d hd => ?_
        rw [List.map_map] at hd
        obtain ⟨z, _, e⟩ := List.mem_map.mp hd
        rw [← e]
        simp [froz, Bel]
end Kit0


/-! The helpers of the laws k00 to k09: told as due. -/
namespace Kit0
open PySem PySem.Spec PyProof.Rows L2 Sim
mutual
/-- of one kind and content; n: how many parts -/
inductive SameD (cs : CsL) : Nat → D → D → Prop
  | non : SameD cs 1 .non .non
  | bl (b : Bool) : SameD cs 1 (.bl b) (.bl b)
  | int (i : Int) : SameD cs 1 (.int i) (.int i)
  | str (x : Str) : SameD cs 1 (.str x) (.str x)
  | tup {n : Nat} {xs ys : List D} : SameL cs n xs ys → SameD cs (n + 1) (.tup xs) (.tup ys)
  | lst {n : Nat} {d e : D} {xs ys : List D} : lstOf d cs = some xs → lstOf e cs = some ys → SameL cs n xs ys → SameD cs (n + 1) d e
  | dic {d e : D} {ks : List Key} {ds : List D} : dicOf d cs = some (ks, ds) → dicOf e cs = some (ks, ds) → ks.Nodup → (∀ x ∈ ds, flatD x = true) → SameD cs 1 d e
inductive SameL (cs : CsL) : Nat → List D → List D → Prop
  | nil : SameL cs 0 [] []
  | cons {n m : Nat} {d e : D} {ds es : List D} : SameD cs n d e → SameL cs m ds es → SameL cs (n + m) (d :: ds) (e :: es)
end
theorem SameD.pos {cs : CsL} {n : Nat} {d e : D} (h : SameD cs n d e) : 1 ≤ n := by cases h <;> omega
theorem SameL.len {cs : CsL} {n : Nat} {ds es : List D} (h : SameL cs n ds es) : ds.length = es.length ∧ ds.length ≤ n := by
  induction ds generalizing n es with
  | nil => cases h; exact ⟨rfl, Nat.zero_le _⟩
  | cons d ds ih =>
    cases h with
    | cons h1 h2 =>
      obtain ⟨e1, e2⟩ := ih h2
      have := h1.pos
      simp only [List.length_cons]
      omega
theorem SameL.app {cs : CsL} {n m : Nat} {ds es xs ys : List D} (h : SameL cs n ds es) (h2 : SameL cs m xs ys) : SameL cs (n + m) (ds ++ xs) (es ++ ys) := by
  induction ds generalizing n es with
  | nil => cases h; simpa using h2
  | cons d ds ih =>
    cases h with
    | cons a b =>
      have := SameL.cons a (ih b)
      rw [← Nat.add_assoc] at this
      exact this
/-- the last one -/
theorem SameL.last {cs : CsL} {n : Nat} {ds es : List D} (h : SameL cs n ds es) (hne : ds ≠ []) : ∃ ds' es' d e m k, ds = ds' ++ [d] ∧ es = es' ++ [e] ∧ SameL cs m ds' es' ∧ SameD cs k d e ∧ n = m + k := by
  induction ds generalizing n es with
  | nil => exact absurd rfl hne
  | cons d ds ih =>
    cases h with
    | @cons n1 m1 _ e1 _ es1 a b =>
      cases ds with
      | nil =>
        cases b
        exact ⟨[], [], d, e1, 0, n1, rfl, rfl, .nil, a, by omega⟩
      | cons d2 ds =>
        obtain ⟨ds', es', d', e', m, k, h1, h2, h3, h4, h5⟩ := ih b (by simp)
        exact ⟨d :: ds', e1 :: es', d', e', n1 + m, k, by rw [h1]; rfl, by rw [h2]; rfl, .cons a h3, h4, by omega⟩
theorem zipD_app {xs ys us vs : List D} (h : xs.length = ys.length) : zipD (xs ++ us) (ys ++ vs) = zipD xs ys ++ zipD us vs := by
  unfold zipD
  exact List.zipWith_append h
theorem lstOf_app {d : D} {cs G : CsL} {xs : List D} (h : lstOf d cs = some xs) : lstOf d (cs ++ G) = some xs := by
  cases d with
  | lst ys => exact h
  | loc n =>
    simp only [lstOf] at h ⊢
    cases hc : cs[n]? with
    | none => rw [hc] at h; cases h
    | some c =>
      rw [List.getElem?_append_left (List.getElem?_eq_some_iff.mp hc).1]
      rw [hc] at h ⊢
      exact h
  | _ => simp [lstOf] at h
theorem dicOf_app {d : D} {cs G : CsL} {x : List Key × List D} (h : dicOf d cs = some x) : dicOf d (cs ++ G) = some x := by
  cases d with
  | dct ks ys => exact h
  | loc n =>
    simp only [dicOf] at h ⊢
    cases hc : cs[n]? with
    | none => rw [hc] at h; cases h
    | some c =>
      rw [List.getElem?_append_left (List.getElem?_eq_some_iff.mp hc).1]
      rw [hc] at h ⊢
      exact h
  | _ => simp [dicOf] at h
theorem ty_lst {d : D} {cs : CsL} {xs : List D} (h : lstOf d cs = some xs) : tyOfD d cs = some "list" := by
  cases d with
  | lst ys => rfl
  | loc n =>
    simp only [lstOf] at h
    simp only [tyOfD]
    cases hc : cs[n]? with
    | none => rw [hc] at h; cases h
    | some c => rw [hc] at h; cases c with
      | lst _ => rfl
      | _ => cases h
  | _ => simp [lstOf] at h
theorem ty_dic {d : D} {cs : CsL} {x : List Key × List D} (h : dicOf d cs = some x) : tyOfD d cs = some "dict" := by
  cases d with
  | dct ks ys => rfl
  | loc n =>
    simp only [dicOf] at h
    simp only [tyOfD]
    cases hc : cs[n]? with
    | none => rw [hc] at h; cases h
    | some c => rw [hc] at h; cases c with
      | dic _ _ => rfl
      | _ => cases h
  | _ => simp [dicOf] at h
theorem len_lst {d : D} {cs : CsL} {xs : List D} (h : lstOf d cs = some xs) : lenD d cs = some xs.length := by
  cases d with
  | lst ys => simp only [lstOf] at h; cases h; rfl
  | loc n =>
    simp only [lenD, seqOf, h]
    rfl
  | _ => simp [lstOf] at h
def tBody : TSD := sSeq (sAsg (dMeth0 "list" mPop (dVar 2)) (tgTup 2 (tgCons (tgName 3) (tgCons (tgName 4) tgNil))))
 (sIf (dOr (dTest (dCallB rIsi (aCons (dVar 4) (aCons (dC (.ty "tuple")) aNil)))) (dTest (dCallB rIsi (aCons (dVar 4) (aCons (dC (.ty "list")) aNil)))))
 (sSeq (sIf (dOr (dTest (dBin (rEqvE true) (dCallB rIsi (aCons (dVar 3) (aCons (dC (.ty "tuple")) aNil))) (dCallB rIsi (aCons (dVar 4) (aCons (dC (.ty "tuple")) aNil))))) (dTest (dBin (rEqvE true) (dCallB rIsi (aCons (dVar 3) (aCons (dC (.ty "list")) aNil))) (dCallB rIsi (aCons (dVar 4) (aCons (dC (.ty "list")) aNil))))))
 (sRet (dC (.bl false)))
 (sNext))
 (sSeq (sIf (dTest (dBin (rEqvE true) (dCallB rLen (aCons (dVar 3) aNil)) (dCallB rLen (aCons (dVar 4) aNil))))
 (sRet (dC (.bl false)))
 (sNext))
 (sDrop (dMeth "list" mExtend (dVar 2) (aCons (dCallB rZipD (aCons (dVar 3) (aCons (dVar 4) aNil))) aNil)))))
 (sIf (dTest (dCallB rIsi (aCons (dVar 4) (aCons (dC (.ty "dict")) aNil))))
 (sIf (dOr (dNot (dTest (dCallB rIsi (aCons (dVar 3) (aCons (dC (.ty "dict")) aNil))))) (dTest (dBin (rEqvE true) (dVar 3) (dVar 4))))
 (sRet (dC (.bl false)))
 (sNext))
 (sIf (dTest (dBin (rIsN false) (dVar 4) (dC (.non))))
 (sIf (dTest (dBin (rIsN true) (dVar 3) (dC (.non))))
 (sRet (dC (.bl false)))
 (sNext))
 (sIf (dTest (dCallB rIsi (aCons (dVar 4) (aCons (dC (.ty "str")) aNil))))
 (sIf (dOr (dNot (dTest (dCallB rIsi (aCons (dVar 3) (aCons (dC (.ty "str")) aNil))))) (dTest (dBin (rEqvE true) (dVar 3) (dVar 4))))
 (sRet (dC (.bl false)))
 (sNext))
 (sIf (dOr (dNot (dTest (dCallB rIsi (aCons (dVar 3) (aCons (dC (.ty "int")) aNil))))) (dOr (dTest (dBin (rEqvE true) (dCallB rIsi (aCons (dVar 3) (aCons (dC (.ty "bool")) aNil))) (dCallB rIsi (aCons (dVar 4) (aCons (dC (.ty "bool")) aNil))))) (dTest (dBin (rEqvE true) (dVar 3) (dVar 4)))))
 (sRet (dC (.bl false)))
 (sNext))))))
def tA : TSD := sSeq (sIf (dOr (dTest (dBin (rEqvE true) (dCallB rIsi (aCons (dVar 3) (aCons (dC (.ty "tuple")) aNil))) (dCallB rIsi (aCons (dVar 4) (aCons (dC (.ty "tuple")) aNil))))) (dTest (dBin (rEqvE true) (dCallB rIsi (aCons (dVar 3) (aCons (dC (.ty "list")) aNil))) (dCallB rIsi (aCons (dVar 4) (aCons (dC (.ty "list")) aNil))))))
 (sRet (dC (.bl false)))
 (sNext))
 (sSeq (sIf (dTest (dBin (rEqvE true) (dCallB rLen (aCons (dVar 3) aNil)) (dCallB rLen (aCons (dVar 4) aNil))))
 (sRet (dC (.bl false)))
 (sNext))
 (sDrop (dMeth "list" mExtend (dVar 2) (aCons (dCallB rZipD (aCons (dVar 3) (aCons (dVar 4) aNil))) aNil))))
def tB : TSD := sIf (dTest (dCallB rIsi (aCons (dVar 4) (aCons (dC (.ty "dict")) aNil))))
 (sIf (dOr (dNot (dTest (dCallB rIsi (aCons (dVar 3) (aCons (dC (.ty "dict")) aNil))))) (dTest (dBin (rEqvE true) (dVar 3) (dVar 4))))
 (sRet (dC (.bl false)))
 (sNext))
 (sIf (dTest (dBin (rIsN false) (dVar 4) (dC (.non))))
 (sIf (dTest (dBin (rIsN true) (dVar 3) (dC (.non))))
 (sRet (dC (.bl false)))
 (sNext))
 (sIf (dTest (dCallB rIsi (aCons (dVar 4) (aCons (dC (.ty "str")) aNil))))
 (sIf (dOr (dNot (dTest (dCallB rIsi (aCons (dVar 3) (aCons (dC (.ty "str")) aNil))))) (dTest (dBin (rEqvE true) (dVar 3) (dVar 4))))
 (sRet (dC (.bl false)))
 (sNext))
 (sIf (dOr (dNot (dTest (dCallB rIsi (aCons (dVar 3) (aCons (dC (.ty "int")) aNil))))) (dOr (dTest (dBin (rEqvE true) (dCallB rIsi (aCons (dVar 3) (aCons (dC (.ty "bool")) aNil))) (dCallB rIsi (aCons (dVar 4) (aCons (dC (.ty "bool")) aNil))))) (dTest (dBin (rEqvE true) (dVar 3) (dVar 4)))))
 (sRet (dC (.bl false)))
 (sNext))))
def t__law_same : TSD := sSeq (sSet 2 (dLst (aCons (dTup (aCons (dVar 0) (aCons (dVar 1) aNil))) aNil)))
 (sSeq (sWhile (dTest (dBin (rEqvE true) (dVar 2) (dLst aNil)))
 (sSeq (sAsg (dMeth0 "list" mPop (dVar 2)) (tgTup 2 (tgCons (tgName 3) (tgCons (tgName 4) tgNil))))
 (sIf (dOr (dTest (dCallB rIsi (aCons (dVar 4) (aCons (dC (.ty "tuple")) aNil)))) (dTest (dCallB rIsi (aCons (dVar 4) (aCons (dC (.ty "list")) aNil)))))
 (sSeq (sIf (dOr (dTest (dBin (rEqvE true) (dCallB rIsi (aCons (dVar 3) (aCons (dC (.ty "tuple")) aNil))) (dCallB rIsi (aCons (dVar 4) (aCons (dC (.ty "tuple")) aNil))))) (dTest (dBin (rEqvE true) (dCallB rIsi (aCons (dVar 3) (aCons (dC (.ty "list")) aNil))) (dCallB rIsi (aCons (dVar 4) (aCons (dC (.ty "list")) aNil))))))
 (sRet (dC (.bl false)))
 (sNext))
 (sSeq (sIf (dTest (dBin (rEqvE true) (dCallB rLen (aCons (dVar 3) aNil)) (dCallB rLen (aCons (dVar 4) aNil))))
 (sRet (dC (.bl false)))
 (sNext))
 (sDrop (dMeth "list" mExtend (dVar 2) (aCons (dCallB rZipD (aCons (dVar 3) (aCons (dVar 4) aNil))) aNil)))))
 (sIf (dTest (dCallB rIsi (aCons (dVar 4) (aCons (dC (.ty "dict")) aNil))))
 (sIf (dOr (dNot (dTest (dCallB rIsi (aCons (dVar 3) (aCons (dC (.ty "dict")) aNil))))) (dTest (dBin (rEqvE true) (dVar 3) (dVar 4))))
 (sRet (dC (.bl false)))
 (sNext))
 (sIf (dTest (dBin (rIsN false) (dVar 4) (dC (.non))))
 (sIf (dTest (dBin (rIsN true) (dVar 3) (dC (.non))))
 (sRet (dC (.bl false)))
 (sNext))
 (sIf (dTest (dCallB rIsi (aCons (dVar 4) (aCons (dC (.ty "str")) aNil))))
 (sIf (dOr (dNot (dTest (dCallB rIsi (aCons (dVar 3) (aCons (dC (.ty "str")) aNil))))) (dTest (dBin (rEqvE true) (dVar 3) (dVar 4))))
 (sRet (dC (.bl false)))
 (sNext))
 (sIf (dOr (dNot (dTest (dCallB rIsi (aCons (dVar 3) (aCons (dC (.ty "int")) aNil))))) (dOr (dTest (dBin (rEqvE true) (dCallB rIsi (aCons (dVar 3) (aCons (dC (.ty "bool")) aNil))) (dCallB rIsi (aCons (dVar 4) (aCons (dC (.ty "bool")) aNil))))) (dTest (dBin (rEqvE true) (dVar 3) (dVar 4)))))
 (sRet (dC (.bl false)))
 (sNext))))))))
 (sRet (dC (.bl true))))
end Kit0


/-! The helpers of the laws k00 to k09: told as due, the reading. -/
namespace Kit0
open PySem PySem.Spec PyProof.Rows L2 Sim
section
variable {Ex : ExW} {cs X td0 : CsL} {P : EndsD} {k kk : Nat} {d e : D} {a b : Option D} {td : List D}
/-- the clause of tuples and lists -/
theorem read_A {t : String} {xs ys : List D} {cs1 : CsL} (ht1 : tyOfD d cs1 = some t) (ht2 : tyOfD e cs1 = some t) (hl1 : lenD d cs1 = some xs.length) (hl2 : lenD e cs1 = some ys.length) (hxy : xs.length = ys.length)
    (hz : (lstOf d cs1 = some xs ∧ lstOf e cs1 = some ys) ∨ (d = .tup xs ∧ e = .tup ys)) (hc : cs1[kk]? = some (Cell.lst td)) (hl : td.length + xs.length ≤ sizeLine)
    (q : P.nx [a, b, some (.loc kk), some d, some e] ((cs1 ++ [Cell.lst (zipD xs ys)]).set kk (Cell.lst (td ++ zipD xs ys)))) : tA Ex [a, b, some (.loc kk), some d, some e] cs1 P := by
  have hkk : kk < cs1.length := (List.getElem?_eq_some_iff.mp hc).1
  refine isi ht1 (by decide) (isi ht2 (by decide) (e_eqB ?_))
  refine iftF (by simp) (isi ht1 (by decide) (isi ht2 (by decide) (e_eqB ?_)))
  refine iftF (by simp) ⟨_, hl1, _, hl2, e_eqI ?_⟩
  refine iftF (by simp [hxy]) ⟨ty_list hc, xs, ys, hz, ?_⟩
  refine m_ext (xs := td) (ys := zipD xs ys) (by rw [List.getElem?_append_left hkk]; exact hc) (by simp) ?_ q
  have : (zipD xs ys).length = xs.length := by simp [zipD, hxy]
  rw [this]
  exact hl
theorem read_disp (h : SameD cs k d e) (hc : (cs ++ X)[kk]? = some (Cell.lst td)) (hl : td.length + k ≤ sizeLine)
    (h0 : P.nx [a, b, some (.loc kk), some d, some e] (cs ++ X)) (hz : ∀ m xs ys, k = m + 1 → SameL cs m xs ys → P.nx [a, b, some (.loc kk), some d, some e] ((cs ++ X ++ [Cell.lst (zipD xs ys)]).set kk (Cell.lst (td ++ zipD xs ys)))) :
    sIf (dOr (dTest (dCallB rIsi (aCons (dVar 4) (aCons (dC (.ty "tuple")) aNil)))) (dTest (dCallB rIsi (aCons (dVar 4) (aCons (dC (.ty "list")) aNil))))) tA tB Ex [a, b, some (.loc kk), some d, some e] (cs ++ X) P := by
  cases h with
  | @tup n xs ys hs =>
    obtain ⟨e1, e2⟩ := hs.len
    refine isi (t := "tuple") rfl (by decide) (iftT (by decide) (iftT rfl ?_))
    exact read_A (t := "tuple") (xs := xs) (ys := ys) rfl rfl (by simp [lenD, seqOf]) (by simp [lenD, seqOf]) e1 (.inr ⟨rfl, rfl⟩) hc (by omega) (hz _ _ _ rfl hs)
  | @lst n _ _ xs ys h1 h2 hs =>
    obtain ⟨e1, e2⟩ := hs.len
    have g1 := lstOf_app (G := X) h1
    have g2 := lstOf_app (G := X) h2
    refine isi (t := "list") (ty_lst g2) (by decide) (iftF (by decide) (isi (t := "list") (ty_lst g2) (by decide) (iftT (by decide) ?_)))
    exact read_A (t := "list") (xs := xs) (ys := ys) (ty_lst g1) (ty_lst g2) (len_lst g1) (len_lst g2) e1 (.inl ⟨g1, g2⟩) hc (by omega) (hz _ _ _ rfl hs)
  | @dic _ _ ks ds h1 h2 hn hf =>
    have g1 := dicOf_app (G := X) h1
    have g2 := dicOf_app (G := X) h2
    refine isi (t := "dict") (ty_dic g2) (by decide) (iftF (by decide) (isi (t := "dict") (ty_dic g2) (by decide) (iftF (by decide) ?_)))
    refine isi (t := "dict") (ty_dic g2) (by decide) (iftT (by decide) (isi (t := "dict") (ty_dic g1) (by decide) (iftF (by decide) ?_)))
    refine e_dic g1 g2 hn hf (iftF rfl h0)
  | non =>
    refine isi (t := "NoneType") rfl (by decide) (iftF (by decide) (isi (t := "NoneType") rfl (by decide) (iftF (by decide) ?_)))
    exact isi (t := "NoneType") rfl (by decide) (iftF (by decide) h0)
  | str x =>
    refine isi (t := "str") rfl (by decide) (iftF (by decide) (isi (t := "str") rfl (by decide) (iftF (by decide) ?_)))
    refine isi (t := "str") rfl (by decide) (iftF (by decide) (isi (t := "str") rfl (by decide) (iftT (by decide) (isi (t := "str") rfl (by decide) (iftF (by decide) ?_)))))
    exact e_eqS (iftF (by simp) h0)
  | bl x =>
    refine isi (t := "bool") rfl (by decide) (iftF (by decide) (isi (t := "bool") rfl (by decide) (iftF (by decide) ?_)))
    refine isi (t := "bool") rfl (by decide) (iftF (by decide) (isi (t := "bool") rfl (by decide) (iftF (by decide) (isi (t := "bool") rfl (by decide) (iftF (by decide) ?_)))))
    refine isi (t := "bool") rfl (by decide) (isi (t := "bool") rfl (by decide) (e_eqB (iftF (by simp) (e_eqB (iftF (by simp) h0)))))
  | int x =>
    refine isi (t := "int") rfl (by decide) (iftF (by decide) (isi (t := "int") rfl (by decide) (iftF (by decide) ?_)))
    refine isi (t := "int") rfl (by decide) (iftF (by decide) (isi (t := "int") rfl (by decide) (iftF (by decide) (isi (t := "int") rfl (by decide) (iftF (by decide) ?_)))))
    refine isi (t := "int") rfl (by decide) (isi (t := "int") rfl (by decide) (e_eqB (iftF (by simp) (e_eqI (iftF (by simp) h0)))))
end
def p__law_same : PD := fun ds cs P Ex => ∃ (d e : D) (n : Nat), ds = [d, e] ∧ SameD cs n d e ∧ n ≤ 1000000 ∧ P (.bl true) cs
theorem read_same {K : PySem.W.Frag} {T : Tabl} {Ex : ExW} {cs : CsL} {P : DK} {d e : D} {n : Nat} (h : SameD cs n d e) (hn : n ≤ 1000000) (hb : ∀ c ∈ cs, BelC cs.length c) (q : P (.bl true) cs) :
    t__law_same Ex [some d, some e, none, none, none] cs { nx := fun _ cs' => RetD K T cs.length P .non cs', rt := RetD K T cs.length P } := by
  refine ⟨two_le, Nat.succ_le_of_lt (by rw [sizeLine_eq]; decide), ?_⟩
  refine sWhile_of (ι := Nat) (fun i sl cs' => ∃ (ds es : List D) (G : CsL) (o1 o2 : Option D), SameL cs i ds es ∧ i ≤ 1000000 ∧ sl = [some d, some e, some (.loc cs.length), o1, o2] ∧ cs' = cs ++ (Cell.lst (zipD ds es) :: G)) id ?_
    (i := n) ⟨[d], [e], [], none, none, by simpa using SameL.cons h .nil, hn, rfl, by simp [zipD]⟩
  rintro i sl cs' ⟨ds, es, G, o1, o2, hs, hi, rfl, rfl⟩ W hW
  obtain ⟨l1, l2⟩ := hs.len
  have hc : (cs ++ (Cell.lst (zipD ds es) :: G))[cs.length]? = some (Cell.lst (zipD ds es)) := by simp
  have hc2 : (cs ++ (Cell.lst (zipD ds es) :: G) ++ [Cell.lst []])[cs.length]? = some (Cell.lst (zipD ds es)) := by simp
  refine ⟨Nat.zero_le _, ?_⟩
  cases hds : ds with
  | nil =>
    subst hds
    cases hs
    refine e_emp false (lst_cell hc2) lst_new rfl (iftF rfl ?_)
    refine ⟨.bl true, cs, ?_, q⟩
    have := lands_same (K := K) (T := T) (cs := cs) (G := Cell.lst (zipD [] []) :: (G ++ [Cell.lst []])) (d := .bl true) (by simp only [Bel]) hb
    simpa using this
  | cons d0 r0 =>
    have hne : ds ≠ [] := by rw [hds]; simp
    rw [← hds]
    have hnz : (zipD ds es).isEmpty = false := by
      have : (zipD ds es).length = ds.length := by simp [zipD, l1]
      cases hq : zipD ds es with
      | nil => rw [hq] at this; rw [hds] at this; simp at this
      | cons _ _ => rfl
    refine e_emp true (lst_cell hc2) lst_new (by rw [hnz]; rfl) (iftT rfl ?_)
    obtain ⟨ds', es', d1, e1, m, k, rfl, rfl, h3, h4, rfl⟩ := hs.last hne
    have l3 := h3.len.1
    have hzz : zipD (ds' ++ [d1]) (es' ++ [e1]) = zipD ds' es' ++ [.tup [d1, e1]] := by rw [zipD_app l3]; rfl
    rw [hzz] at hc2 ⊢
    refine ⟨ty_list hc2, m_pop (e := .tup [d1, e1]) hc2 (by simp) ⟨rfl, ?_⟩⟩
    rw [List.dropLast_concat]
    have hset : (cs ++ (Cell.lst (zipD ds' es' ++ [.tup [d1, e1]]) :: G) ++ [Cell.lst []]).set cs.length (Cell.lst (zipD ds' es')) = cs ++ (Cell.lst (zipD ds' es') :: (G ++ [Cell.lst []])) := by simp
    rw [hset]
    have hlen : (zipD ds' es').length = ds'.length := by simp [zipD, l3]
    have := h3.len.2
    have hp := h4.pos
    refine read_disp (X := Cell.lst (zipD ds' es') :: (G ++ [Cell.lst []])) (td := zipD ds' es') h4 (by simp) (by rw [hlen, sizeLine_eq]; omega) ?_ ?_
    · exact hW m _ _ (by show m < m + k; omega) ⟨ds', es', G ++ [Cell.lst []], _, _, h3, by omega, rfl, rfl⟩
    · intro j xs ys ej hj
      refine hW (m + j) _ _ (by show m + j < m + k; omega) ⟨ds' ++ xs, es' ++ ys, G ++ [Cell.lst []] ++ [Cell.lst (zipD xs ys)], _, _, h3.app hj, by omega, rfl, ?_⟩
      rw [zipD_app l3]
      simp
end Kit0


/-! The helpers of the laws k00 to k09: defs that draw and make things. -/
namespace Kit0
open PySem PySem.Spec PyProof.Rows L2 Sim
theorem bel_int {n : Nat} {i : Int} : Bel n (.int i) := by simp only [Bel]
theorem bel_bl {n : Nat} {i : Bool} : Bel n (.bl i) := by simp only [Bel]
/-- the cells have gone on, those of before are as they were, but for the deck's -/
def Ext (dk ck : Nat) (cs cs' : CsL) : Prop := cs.length ≤ cs'.length ∧ ∀ i, i < cs.length → i ≠ dk → i ≠ ck → cs'[i]? = cs[i]?
theorem Ext.refl {dk ck : Nat} {cs : CsL} : Ext dk ck cs cs := ⟨Nat.le_refl _, fun _ _ _ _ => rfl⟩
theorem Ext.trans {dk ck : Nat} {cs cs' cs'' : CsL} (h : Ext dk ck cs cs') (h' : Ext dk ck cs' cs'') : Ext dk ck cs cs'' := ⟨Nat.le_trans h.1 h'.1, fun i a b c => (h'.2 i (Nat.lt_of_lt_of_le a h.1) b c).trans (h.2 i a b c)⟩
theorem SameBut.ext {dk ck : Nat} {cs cs' : CsL} (h : SameBut dk ck cs cs') : Ext dk ck cs cs' := ⟨Nat.le_of_eq h.1.symm, fun i _ b c => h.2 i b c⟩
theorem Ext.app {dk ck : Nat} {cs cs' : CsL} (h : Ext dk ck cs cs') (G : CsL) : Ext dk ck cs (cs' ++ G) := ⟨by rw [List.length_append]; exact Nat.le_trans h.1 (Nat.le_add_right _ _), fun i a b c => by rw [List.getElem?_append_left (Nat.lt_of_lt_of_le a h.1)]; exact h.2 i a b c⟩
theorem DeckAt.lt {dk ck : Nat} {cs : CsL} (A : DeckAt dk ck cs) : dk < cs.length ∧ ck < cs.length := by
  obtain ⟨_, _, _, D⟩ := A
  exact ⟨D.lt1, D.lt2⟩
theorem DeckAt.app {dk ck : Nat} {cs : CsL} (A : DeckAt dk ck cs) (G : CsL) : DeckAt dk ck (cs ++ G) := by
  obtain ⟨a, b, c, D⟩ := A
  exact ⟨a, b, c, D.app G⟩
theorem DeckAt.take {dk ck n : Nat} {cs : CsL} (A : DeckAt dk ck cs) (h1 : dk < n) (h2 : ck < n) : DeckAt dk ck (cs.take n) := by
  obtain ⟨a, b, c, D⟩ := A
  exact ⟨a, b, c, by rw [List.getElem?_take, if_pos h1]; exact D.d, by rw [List.getElem?_take, if_pos h2]; exact D.c, D.n⟩
section
variable {K : PySem.W.Frag} {T : Tabl} {dk ck : Nat} {cs cs' : CsL} {d d' : D} {P : DK}
/-- the end of a def that has drawn and made things -/
theorem ret_ext (f : Nat) (hb : ∀ c ∈ cs, BelC cs.length c) (A0 : DeckAt dk ck cs) (A : DeckAt dk ck cs') (S : Ext dk ck cs cs') (e : froz cs.length [] cs' f d = d') (hd : Bel cs.length d') (q : ∀ cs2, DeckAt dk ck cs2 → SameBut dk ck cs cs2 → P d' cs2) : RetD K T cs.length P d cs' := by
  obtain ⟨h1, h2⟩ := A0.lt
  have S' : SameBut dk ck cs (cs'.take cs.length) := by
    refine ⟨by rw [List.length_take]; exact Nat.min_eq_left S.1, fun i a b => ?_⟩
    rw [List.getElem?_take]
    by_cases hi : i < cs.length
    · rw [if_pos hi]; exact S.2 i hi a b
    · rw [if_neg hi, List.getElem?_eq_none (by omega)]
  refine ⟨d', cs'.take cs.length, ?_, q _ (A.take h1 h2) S'⟩
  have L := lands_drop (K := K) (T := T) (n := cs.length) (cs := cs') f (d := d) (by rw [e]; exact hd) S.1 (fun i c hi e => ?_)
  · rw [e] at L
    exact L
  by_cases i1 : i = dk
  · subst i1
    obtain ⟨cells, mixed, draws, Dk⟩ := A
    rw [Dk.d] at e
    cases e
    simp only [BelC, BelL, Bel]
    exact ⟨h2, trivial, trivial, trivial⟩
  by_cases i2 : i = ck
  · subst i2
    obtain ⟨cells, mixed, draws, Dk⟩ := A
    rw [Dk.c] at e
    cases e
    refine BelL.of fun d hd => ?_
    obtain ⟨z, _, e⟩ := List.mem_map.mp hd
    rw [← e]
    simp only [Bel]
  rw [S.2 i hi i1 i2] at e
  exact hb c (List.mem_of_getElem? e)
theorem froz_int {n : Nat} {ks : List Nat} {f : Nat} {i : Int} : froz n ks cs f (.int i) = .int i := froz_bel f _ bel_int
/-- .. of a whole number, of two -/
theorem ret_int {i : Int} (hb : ∀ c ∈ cs, BelC cs.length c) (A0 : DeckAt dk ck cs) (A : DeckAt dk ck cs') (S : Ext dk ck cs cs') (q : ∀ cs2, DeckAt dk ck cs2 → SameBut dk ck cs cs2 → P (.int i) cs2) : RetD K T cs.length P (.int i) cs' :=
  ret_ext 0 hb A0 A S (froz_bel 0 _ bel_int) bel_int q
theorem bel_two {n : Nat} {a b : Int} : Bel n (.tup [.int a, .int b]) := by simp only [Bel, BelL, and_self]
end
end Kit0


namespace K01
open PySem PySem.Spec PyProof.Rows L2 Sim
open Kit0
def top (i : Nat) : Stmt := PySem.Challenge.pw_everyboxout_k01_fractions_and_names.main.body.getD i (.Pass ⟨0, 0, 0, 0⟩)
abbrev s_is_whole : Stmt := top 9
abbrev s_is_name : Stmt := top 10
abbrev s_is_short : Stmt := top 13
abbrev s_common : Stmt := top 14
abbrev s_low_f : Stmt := top 15
abbrev s_is_fraction : Stmt := top 16
abbrev s_plus_f : Stmt := top 17
abbrev s_times_f : Stmt := top 18
abbrev s_compared_f : Stmt := top 19
abbrev s_need_fractions : Stmt := top 20
abbrev s_lowest : Stmt := top 21
abbrev s_plus : Stmt := top 22
abbrev s_times : Stmt := top 23
abbrev s_compared : Stmt := top 24
abbrev s__law_deck : Stmt := top 26
abbrev s__law_draw : Stmt := top 27
abbrev s__law_pick : Stmt := top 28
abbrev s__law_same : Stmt := top 29
abbrev s__law_is_name : Stmt := top 30
abbrev s__law_lowest : Stmt := top 31
abbrev s__law_drawn_number : Stmt := top 32
abbrev s__law_fraction : Stmt := top 33
abbrev s__law_no_number : Stmt := top 34
abbrev s__law_no_fraction : Stmt := top 35
abbrev s__law_tried : Stmt := top 36
abbrev s__law_are_names_right : Stmt := top 37
abbrev s__law_are_sums_right : Stmt := top 38
abbrev s_law : Stmt := top 39
structure Mg (mg : Str → Option Value) : Prop where
  int : mg "int" = none
  str : mg "str" = none
  bool : mg "bool" = none
  list : mg "list" = none
  tuple : mg "tuple" = none
  dict : mg "dict" = none
  isinstance : mg "isinstance" = none
  len : mg "len" = none
  abs : mg "abs" = none
  max : mg "max" = none
  all : mg "all" = none
  any : mg "any" = none
  range : mg "range" = none
  zip : mg "zip" = none
  super : mg "super" = none
  MOST : ∃ t, mg "MOST" = some (.int 1000000000000 t)
  LETTERS : ∃ t, mg "LETTERS" = some (.str "abcdefghijklmnopqrstuvwxyz" t)
  SIGNS : ∃ t, mg "SIGNS" = some (.str "abcdefghijklmnopqrstuvwxyz0123456789" t)
  LONGEST_NAME : ∃ t, mg "LONGEST_NAME" = some (.int 8 t)
  PAIR : ∃ t, mg "PAIR" = some (.int 2 t)
/-- the def stands there -/
def Has (G : Gx) (x : Str) (st : Stmt) : Prop := ∃ f fd, G.mg x = some (.ref f) ∧ Fun G.K x x st f fd

/-! ### plain -/
abbrev MM : Int := 1000000000000
theorem MMv : MM = 1000000000000 := rfl
def known (d : D) (cs : CsL) : Prop := ∃ t, tyOfD d cs = some t
def wholeB : D → Bool | .int i => decide (-MM ≤ i) && decide (i ≤ MM) | _ => false
def shortB : D → Bool | .int i => decide (-MM < i) && decide (i < MM) | _ => false
inductive KD (cs : CsL) : D → Prop
  | int (i : Int) : KD cs (.int i)
  | bl (b : Bool) : KD cs (.bl b)
  | str (x : Str) : KD cs (.str x)
  | tup (xs : List D) : KD cs (.tup xs)
  | oth {d : D} (t : String) : tyOfD d cs = some t → (t = "NoneType" ∨ t = "list" ∨ t = "dict") → wholeB d = false → shortB d = false → (∀ z, d ≠ .str z) → (∀ z, d ≠ .tup z) → KD cs d
theorem known.kd {d : D} {cs : CsL} (h : known d cs) : KD cs d := by
  obtain ⟨t, h⟩ := h
  cases d with
  | int i => exact .int i
  | bl b => exact .bl b
  | str x => exact .str x
  | tup xs => exact .tup xs
  | non => exact .oth "NoneType" rfl (.inl rfl) rfl rfl (fun _ => by simp) (fun _ => by simp)
  | lst xs => exact .oth "list" rfl (.inr (.inl rfl)) rfl rfl (fun _ => by simp) (fun _ => by simp)
  | dct ks xs => exact .oth "dict" rfl (.inr (.inr rfl)) rfl rfl (fun _ => by simp) (fun _ => by simp)
  | fn a => cases h
  | ty n => cases h
  | loc n =>
    refine .oth t h ?_ rfl rfl (fun _ => by simp) (fun _ => by simp)
    simp only [tyOfD] at h
    cases hc : cs[n]? with
    | none => rw [hc] at h; cases h
    | some c =>
      rw [hc] at h
      cases c with
      | lst _ => cases h; exact .inr (.inl rfl)
      | dic _ _ => cases h; exact .inr (.inr rfl)
      | gone => cases h
/-- the common end of a def that keeps nothing -/
theorem ret_same {K : PySem.W.Frag} {T : Tabl} {cs G : CsL} {d : D} {P : DK} (hb : ∀ c ∈ cs, BelC cs.length c) (hd : Bel cs.length d) (q : P d cs) : RetD K T cs.length P d (cs ++ G) := ⟨d, cs, lands_same hd hb, q⟩
theorem ret_here {K : PySem.W.Frag} {T : Tabl} {cs : CsL} {n : Nat} {d : D} {P : DK} (q : P d cs) : RetD K T n P d cs := ⟨d, cs, .refl, q⟩
theorem isiT {d : D} {n : String} (t : String) {cs : CsL} {Q : DK} (h : tyOfD d cs = some t) (q : Q (.bl true) cs) (hn : ["bool", "int", "str", "tuple", "list", "dict"].contains n = true := by decide) (hb : isT t n = true := by decide) : rIsi [d, .ty n] cs Q := isi h hn (by rw [hb]; exact q)
theorem isiF {d : D} {n : String} (t : String) {cs : CsL} {Q : DK} (h : tyOfD d cs = some t) (q : Q (.bl false) cs) (hn : ["bool", "int", "str", "tuple", "list", "dict"].contains n = true := by decide) (hb : isT t n = false := by decide) : rIsi [d, .ty n] cs Q := isi h hn (by rw [hb]; exact q)
def p_is_whole : PD := fun ds cs P Ex => ∃ d, ds = [d] ∧ known d cs ∧ P (.bl (wholeB d)) cs
def p_is_short : PD := fun ds cs P Ex => ∃ d, ds = [d] ∧ known d cs ∧ P (.bl (shortB d)) cs

def t_is_whole : TSD := sRet (dAndV (dCallB rIsi (aCons (dVar 0) (aCons (dC (.ty "int")) aNil))) (dAndV (dNotV (dCallB rIsi (aCons (dVar 0) (aCons (dC (.ty "bool")) aNil)))) (dChain rLe rLe (dNeg (dC (.int 1000000000000))) (dVar 0) (dC (.int 1000000000000)))))
theorem sc_is_whole : FnScope ["thing"] ["thing"] (defScope s_is_whole) := ⟨rfl, rfl, rfl, by decide +kernel, rfl, by decide +kernel, by decide +kernel⟩
theorem ok_is_whole {G : Gx} (t : Mg G.mg) (hF : Has G "is_whole" s_is_whole)  : DefOk G 1 "is_whole" "is_whole" s_is_whole ["thing"] p_is_whole := by
  refine def_ok hF sc_is_whole (fun ds cs P Ex h => by obtain ⟨_, rfl, _⟩ := h; rfl) (fun _ _ _ _ _ _ us hl => match us, hl with | [_], _ => rfl) fun f cd A outer s H E F m good => ⟨t_is_whole, simSs_one (simS_ret (simE_and (cIsi t.isinstance (simA_cons (sv 0) (simA_cons (simE_ty (n := "int") t.int) simA_nil))) (simE_and (simE_not (cIsi t.isinstance (simA_cons (sv 0) (simA_cons (simE_ty (n := "bool") t.bool) simA_nil)))) (simE_one (sLeLe (simE_neg (simE_gint t.MOST.choose_spec)) (sv 0) (simE_gint t.MOST.choose_spec)))))), fun ds cs P Ex hd hb hp => ?_⟩
  obtain ⟨d, rfl, hk, q⟩ := hp
  cases hk.kd with
  | int i =>
    exact isiT "int" rfl (isiF "int" rfl (chLeLe (-MM) i MM (fun _ h => h) (fun _ h => h) (fun _ h => h) (ret_here q)))
  | bl b => exact isiT "bool" rfl (isiT "bool" rfl (ret_here q))
  | str x => exact isiF "str" rfl (ret_here q)
  | tup x => exact isiF "tuple" rfl (ret_here q)
  | oth t h1 h2 h3 h4 =>
    rw [h3] at q
    rcases h2 with e | e | e <;> subst e
    · exact isiF "NoneType" h1 (ret_here q)
    · exact isiF "list" h1 (ret_here q)
    · exact isiF "dict" h1 (ret_here q)
def t_is_short : TSD := sRet (dAndV (dCall p_is_whole (aCons (dVar 0) aNil)) (dChain rLt rLt (dNeg (dC (.int 1000000000000))) (dVar 0) (dC (.int 1000000000000))))
theorem sc_is_short : FnScope ["thing"] ["thing"] (defScope s_is_short) := ⟨rfl, rfl, rfl, by decide +kernel, rfl, by decide +kernel, by decide +kernel⟩
theorem ok_is_short {G : Gx} (t : Mg G.mg) (hF : Has G "is_short" s_is_short) (h_is_whole : DefOk G 1 "is_whole" "is_whole" s_is_whole ["thing"] p_is_whole) : DefOk G 2 "is_short" "is_short" s_is_short ["thing"] p_is_short := by
  refine def_ok hF sc_is_short (fun ds cs P Ex h => by obtain ⟨_, rfl, _⟩ := h; rfl) (fun _ _ _ _ _ _ us hl => match us, hl with | [_], _ => rfl) fun f cd A outer s H E F m good => ⟨t_is_short, simSs_one (simS_ret (simE_and (simE_call good h_is_whole (simA_cons (sv 0) simA_nil)) (simE_one (sLtLt (simE_neg (simE_gint t.MOST.choose_spec)) (sv 0) (simE_gint t.MOST.choose_spec))))), fun ds cs P Ex hd hb hp => ?_⟩
  obtain ⟨d, rfl, hk, q⟩ := hp
  refine ⟨d, rfl, hk, ?_⟩
  cases hk.kd with
  | int i =>
    by_cases h : -MM ≤ i ∧ i ≤ MM
    · have hw : wholeB (.int i) = true := by simp only [wholeB, Bool.and_eq_true, decide_eq_true_eq]; exact h
      rw [hw]
      exact chLtLt (-MM) i MM (fun _ h => h) (fun _ h => h) (fun _ h => h) (ret_here q)
    · have hw : wholeB (.int i) = false := by
        simp only [wholeB, Bool.and_eq_false_iff, decide_eq_false_iff_not]
        omega
      rw [hw]
      have hs : shortB (.int i) = false := by
        simp only [shortB, Bool.and_eq_false_iff, decide_eq_false_iff_not]
        omega
      rw [hs] at q
      exact ret_here q
  | bl b => exact ret_here q
  | str x => exact ret_here q
  | tup x => exact ret_here q
  | oth t h1 h2 h3 h4 =>
    rw [h3]
    rw [h4] at q
    exact ret_here q

def p_common : PD := fun ds cs P Ex => ∃ a b : Int, ds = [.int a, .int b] ∧ P (.int (Int.gcd a b)) cs
theorem abs_nat (i : Int) : (if i < 0 then -i else i) = ((i.natAbs : Nat) : Int) := by split <;> omega

def t_common : TSD := sSeq (sPar 0 1 (dCallB rAbs (aCons (dVar 0) aNil)) (dCallB rAbs (aCons (dVar 1) aNil)))
 (sSeq (sWhile (dTest (dBin (rEqvE true) (dVar 1) (dC (.int 0))))
 (sPar 0 1 (dVar 1) (dBin rMod (dVar 0) (dVar 1))))
 (sRet (dVar 0)))
theorem sc_common : FnScope ["one", "other"] ["one", "other"] (defScope s_common) := ⟨rfl, rfl, rfl, by decide +kernel, rfl, by decide +kernel, by decide +kernel⟩
theorem ok_common {G : Gx} (t : Mg G.mg) (hF : Has G "common" s_common)  : DefOk G 1 "common" "common" s_common ["one", "other"] p_common := by
  refine def_ok hF sc_common (fun ds cs P Ex h => by obtain ⟨_, _, rfl, _⟩ := h; rfl) (fun _ _ _ _ _ _ us hl => match us, hl with | [_, _], _ => rfl) fun f cd A outer s H E F m good => ⟨t_common, simSs_cons (simS_par 0 1 good.calm good.nd (cAbs t.abs (simA_cons (sv 0) simA_nil)) (cAbs t.abs (simA_cons (sv 1) simA_nil)))
 (simSs_cons (simS_while own_cx (tNeE good (sv 1) (simE_int))
 (simSs_one (simS_par 0 1 good.calm good.nd (sv 1) (sMod (sv 0) (sv 1)))))
 (simSs_one (simS_ret (sv 0)))), fun ds cs P Ex hd hb hp => ?_⟩
  obtain ⟨a, b, rfl, q⟩ := hp
  show sWhile _ _ _ [some (.int (if a < 0 then -a else a)), some (.int (if b < 0 then -b else b))] cs _
  rw [abs_nat, abs_nat]
  refine sWhile_of (ι := Nat) (fun i sl cs' => cs' = cs ∧ ∃ x : Nat, sl = [some (.int (x : Nat)), some (.int (i : Nat))] ∧ Nat.gcd x i = Int.gcd a b) id ?_ (i := b.natAbs) ⟨rfl, a.natAbs, rfl, rfl⟩
  rintro i sl cs' ⟨rfl, x, rfl, hg⟩ W hW
  refine e_eqI ?_
  by_cases hi : i = 0
  · subst hi
    refine iftF (by simp) ?_
    rw [Nat.gcd_zero_right] at hg
    rw [← hg] at q
    exact ret_here q
  · refine iftT (by simp; omega) ⟨by omega, ?_⟩
    refine hW (x % i) _ _ (Nat.mod_lt _ (Nat.pos_of_ne_zero hi)) ⟨rfl, i, rfl, ?_⟩
    rw [← hg, Nat.gcd_comm x i, Nat.gcd_rec i x, Nat.gcd_comm]

/-- a / b in lowest terms, b not nought -/
def lowD (a b : Int) : D := if 0 < b then .tup [.int (a / Int.gcd a b), .int (b / Int.gcd a b)] else .tup [.int (-a / Int.gcd a b), .int (-b / Int.gcd a b)]
def p_low_f : PD := fun ds cs P Ex => ∃ a b : Int, ds = [.int a, .int b] ∧ b ≠ 0 ∧ b.natAbs < 10 ^ 100 ∧ P (lowD a b) cs
theorem gcd_pos {a b : Int} (h : b ≠ 0) : 0 < ((Int.gcd a b : Nat) : Int) := by
  have := Int.gcd_pos_of_ne_zero_right a h
  omega
theorem gcd_le {a b : Int} (h : b ≠ 0) : Int.gcd a b ≤ b.natAbs := by
  have : (Int.gcd a b) ∣ b.natAbs := Nat.gcd_dvd_right _ _
  exact Nat.le_of_dvd (by omega) this
theorem log_small {n : Nat} (h : n < 10 ^ 100) : n.log2 < 9000 := by
  by_cases h0 : n = 0
  · subst h0; decide
  · exact (Nat.log2_lt h0).mpr (Nat.lt_trans h (Nat.lt_of_lt_of_le (by decide : 10 ^ 100 < 2 ^ 400) (Nat.pow_le_pow_right (by decide) (by decide))))
theorem fdiv_gneg {a g : Int} (hg : 0 < g) (h : g ∣ a) : a.fdiv (-g) = -a / g := by
  obtain ⟨c, rfl⟩ := h
  rw [show g * c = (-g) * (-c) by rw [Int.neg_mul_neg], Int.mul_fdiv_cancel_left _ (by omega), show -(-g * -c) = g * (-c) by rw [Int.neg_mul_neg, Int.mul_neg], Int.mul_ediv_cancel_left _ (by omega)]
theorem gdvd_l (a b : Int) : ((Int.gcd a b : Nat) : Int) ∣ a := Int.gcd_dvd_left a b
theorem gdvd_r (a b : Int) : ((Int.gcd a b : Nat) : Int) ∣ b := Int.gcd_dvd_right a b

def t_low_f : TSD := sSeq (sSet 2 (dIf (dTest (dBin rGt (dVar 1) (dC (.int 0)))) (dCall p_common (aCons (dVar 0) (aCons (dVar 1) aNil))) (dNeg (dCall p_common (aCons (dVar 0) (aCons (dVar 1) aNil))))))
 (sRet (dTup (aCons (dBin rFdvU (dVar 0) (dVar 2)) (aCons (dBin rFdvU (dVar 1) (dVar 2)) aNil))))
theorem sc_low_f : FnScope ["number", "den", "by"] ["number", "den"] (defScope s_low_f) := ⟨rfl, rfl, rfl, by decide +kernel, rfl, by decide +kernel, by decide +kernel⟩
theorem ok_low_f {G : Gx} (t : Mg G.mg) (hF : Has G "low_f" s_low_f) (h_common : DefOk G 1 "common" "common" s_common ["one", "other"] p_common) : DefOk G 2 "low_f" "low_f" s_low_f ["number", "den"] p_low_f := by
  refine def_ok hF sc_low_f (fun ds cs P Ex h => by obtain ⟨_, _, rfl, _⟩ := h; rfl) (fun _ _ _ _ _ _ us hl => match us, hl with | [_, _], _ => rfl) fun f cd A outer s H E F m good => ⟨t_low_f, simSs_cons (simS_set 2 good.nd (simE_if (tGt good (sv 1) (simE_int)) (simE_call good h_common (simA_cons (sv 0) (simA_cons (sv 1) simA_nil))) (simE_neg (simE_call good h_common (simA_cons (sv 0) (simA_cons (sv 1) simA_nil))))))
 (simSs_one (simS_ret (simE_tup (simA_cons (sFdvU (sv 0) (sv 2)) (simA_cons (sFdvU (sv 1) (sv 2)) simA_nil))))), fun ds cs P Ex hd hb hp => ?_⟩
  obtain ⟨a, b, rfl, h0, hbig, q⟩ := hp
  have gp := gcd_pos (a := a) h0
  have gl := gcd_le (a := a) h0
  unfold lowD at q
  by_cases hpos : 0 < b
  · rw [if_pos hpos] at q
    refine iftT (by simpa using hpos) ⟨a, b, rfl, ?_⟩
    exact f_pos ⟨gp, log_small (by omega)⟩ (f_pos ⟨gp, log_small (by omega)⟩ ⟨two_le, ret_here q⟩)
  · rw [if_neg hpos] at q
    refine iftF (by simpa using hpos) ⟨a, b, rfl, ?_⟩
    refine f_neg ⟨by omega, log_small (by omega)⟩ (f_neg ⟨by omega, log_small (by omega)⟩ ⟨two_le, ?_⟩)
    rw [fdiv_gneg gp (gdvd_l a b), fdiv_gneg gp (gdvd_r a b)]
    exact ret_here q

theorem known.app {d : D} {cs G : CsL} (h : known d cs) : known d (cs ++ G) := let ⟨t, e⟩ := h; ⟨t, tyOfD_app e⟩
def fracB : D → Bool | .tup [.int a, .int b] => shortB (.int a) && (shortB (.int b) && (decide (1 ≤ b) && decide (Int.gcd a b = 1))) | _ => false
/-- what may be handed to is_fraction -/
def FracOk (d : D) (cs : CsL) : Prop := known d cs ∧ ∀ xs, d = .tup xs → xs.length ≤ 1000 ∧ ∀ x ∈ xs, known x cs
def p_is_fraction : PD := fun ds cs P Ex => ∃ d, ds = [d] ∧ FracOk d cs ∧ P (.bl (fracB d)) cs
theorem short_int {x : D} (h : shortB x = true) : ∃ i, x = .int i := by
  cases x with
  | int i => exact ⟨i, rfl⟩
  | _ => cases h
theorem len_two {xs : List D} (h : xs.length = 2) : ∃ x y, xs = [x, y] := by
  match xs, h with
  | [x, y], _ => exact ⟨x, y, rfl⟩

def t_is_fraction : TSD := sSeq (sIf (dOr (dNot (dTest (dCallB rIsi (aCons (dVar 0) (aCons (dC (.ty "tuple")) aNil))))) (dOr (dTest (dBin (rEqvE true) (dCallB rLen (aCons (dVar 0) aNil)) (dC (.int 2)))) (dNot (dTest (dCallB Sim.rAll (aCons (dLc (wAny (dVar 0)) (.nm 1) tYesD (dCall p_is_short (aCons (dVar 1) aNil)) [1]) aNil))))))
 (sRet (dC (.bl false)))
 (sNext))
 (sRet (dAndV (dBin rGe (dBin rIxD (dVar 0) (dC (.int 1))) (dC (.int 1))) (dBin (rEqvE false) (dCall p_common (aCons (dBin rIxD (dVar 0) (dC (.int 0))) (aCons (dBin rIxD (dVar 0) (dC (.int 1))) aNil))) (dC (.int 1)))))
theorem sc_is_fraction : FnScope ["thing", "part"] ["thing"] (defScope s_is_fraction) := ⟨rfl, rfl, rfl, by decide +kernel, rfl, by decide +kernel, by decide +kernel⟩
theorem ok_is_fraction {G : Gx} (t : Mg G.mg) (hF : Has G "is_fraction" s_is_fraction) (h_common : DefOk G 1 "common" "common" s_common ["one", "other"] p_common) (h_is_short : DefOk G 2 "is_short" "is_short" s_is_short ["thing"] p_is_short) : DefOk G 3 "is_fraction" "is_fraction" s_is_fraction ["thing"] p_is_fraction := by
  refine def_ok hF sc_is_fraction (fun ds cs P Ex h => by obtain ⟨_, rfl, _⟩ := h; rfl) (fun _ _ _ _ _ _ us hl => match us, hl with | [_], _ => rfl) fun f cd A outer s H E F m good => ⟨t_is_fraction, simSs_cons (simS_if (SimW.t (simW_or (simT_not (simT_val (cIsi t.isinstance (simA_cons (sv 0) (simA_cons (simE_ty (n := "tuple") t.tuple) simA_nil))))) (simW_or (tNeE good (cLen t.len (simA_cons (sv 0) simA_nil)) (simE_gint t.PAIR.choose_spec)) (simW_or1 (simT_not (simT_val (cAll good t.all (simA_cons (simE_lc [("part", 1)] (.nm 1) good.calm good.nd (simI_any (sv 0)) (blk_okP ["thing", "part"] (defScope s_is_fraction) rfl rfl (by decide +kernel)) (by decide) (fun _ _ _ _ _ => pg_name good.nd rfl (by first | exact .inl rfl | exact .inr rfl)) (fun _ _ _ _ _ => simTs_nil) (fun _ _ _ _ _ => simE_call (good_blk good) h_is_short (simA_cons (sv 1) simA_nil))) simA_nil))))))))
 (simSs_one (simS_ret (simE_bl)))
 (simSs_nil))
 (simSs_one (simS_ret (simE_and (sGe good (simE_ix (sv 0) (simE_int)) (simE_int)) (simE_one (sEqE good (simE_call good h_common (simA_cons (simE_ix (sv 0) (simE_int)) (simA_cons (simE_ix (sv 0) (simE_int)) simA_nil))) (simE_int)))))), fun ds cs P Ex hd hb hp => ?_⟩
  obtain ⟨d, rfl, ⟨hk, hx⟩, q⟩ := hp
  cases hk.kd with
  | int i => exact isiF "int" rfl (ret_here q)
  | bl b => exact isiF "bool" rfl (ret_here q)
  | str x => exact isiF "str" rfl (ret_here q)
  | oth t h1 h2 h3 h4 h5 h6 =>
    have hf : fracB d = false := by
      cases d with
      | tup z => exact absurd rfl (h6 z)
      | _ => rfl
    rw [hf] at q
    rcases h2 with e | e | e <;> subst e
    · exact isiF "NoneType" h1 (ret_here q)
    · exact isiF "list" h1 (ret_here q)
    · exact isiF "dict" h1 (ret_here q)
  | tup xs =>
    obtain ⟨hl, hxs⟩ := hx xs rfl
    refine isiT "tuple" rfl ⟨xs.length, by simp [lenD, seqOf], e_eqI ?_⟩
    by_cases h2 : xs.length = 2
    · refine iftF (by simp [h2]) ?_
      refine lc_map (fun z => .bl (shortB z)) xs (by rw [h2]; exact two_le) (fun _ => trivial) (fun z hz acc Q q => ⟨z, rfl, (hxs z hz).app, q⟩) ?_
      obtain ⟨x, y, rfl⟩ := len_two h2
      refine all_bl (bs := [shortB x, shortB y]) lst_new ?_
      cases hs1 : shortB x with
      | false =>
        refine ret_same hb (by simp only [Bel]) ?_
        have : fracB (.tup [x, y]) = false := by
          unfold fracB
          split
          · rename_i a b e
            cases e
            rw [hs1]; rfl
          · rfl
        rw [this] at q
        exact q
      | true =>
        cases hs2 : shortB y with
        | false =>
          refine ret_same hb (by simp only [Bel]) ?_
          have : fracB (.tup [x, y]) = false := by
            unfold fracB
            split
            · rename_i a b e
              cases e
              rw [hs1, hs2]; rfl
            · rfl
          rw [this] at q
          exact q
        | true =>
          obtain ⟨a, rfl⟩ := short_int hs1
          obtain ⟨b, rfl⟩ := short_int hs2
          have hf : fracB (.tup [.int a, .int b]) = (decide (1 ≤ b) && decide (Int.gcd a b = 1)) := by
            simp only [fracB, hs1, hs2, Bool.true_and]
          rw [hf] at q
          refine ⟨[.int a, .int b], .int b, rfl, rfl, ?_⟩
          show (match D.bl (decide (1 ≤ b)) with | .bl true => _ | .bl false => _ | _ => False)
          cases h1 : decide (1 ≤ b) with
          | false =>
            rw [h1] at q
            exact ret_same hb (by simp only [Bel]) q
          | true =>
            rw [h1, Bool.true_and] at q
            refine ⟨[.int a, .int b], .int a, rfl, rfl, [.int a, .int b], .int b, rfl, rfl, a, b, rfl, e_eqI ?_⟩
            refine ret_same hb (by simp only [Bel]) ?_
            have e : (decide (((Int.gcd a b : Nat) : Int) = 1) != false) = decide (Int.gcd a b = 1) := by
              rw [Bool.bne_false]
              exact decide_eq_decide.mpr (by omega)
            rw [e]
            exact q
    · refine iftT (by simp; omega) ?_
      have hf : fracB (.tup xs) = false := by
        unfold fracB
        split
        · rename_i a b e
          cases e
          exact absurd rfl h2
        · rfl
      rw [hf] at q
      exact ret_here q

/-- a fraction of smallish numbers -/
def p_plus_f : PD := fun ds cs P Ex => ∃ a b c d : Int, ds = [.tup [.int a, .int b], .tup [.int c, .int d]] ∧ 0 < b ∧ b < MM ∧ 0 < d ∧ d < MM ∧ P (lowD (a * d + c * b) (b * d)) cs
def p_times_f : PD := fun ds cs P Ex => ∃ a b c d : Int, ds = [.tup [.int a, .int b], .tup [.int c, .int d]] ∧ -MM < a ∧ a < MM ∧ 0 < b ∧ b < MM ∧ 0 < d ∧ d < MM ∧ P (lowD (a * c) (b * d)) cs
def cmpI (l r : Int) : Int := if l < r then -1 else if r < l then 1 else 0
def p_compared_f : PD := fun ds cs P Ex => ∃ a b c d : Int, ds = [.tup [.int a, .int b], .tup [.int c, .int d]] ∧ 0 < b ∧ b < MM ∧ 0 < d ∧ d < MM ∧ P (.int (cmpI (a * d) (c * b))) cs
theorem mul_pos_lt {b d : Int} (h1 : 0 < b) (h2 : b < MM) (h3 : 0 < d) (h4 : d < MM) : 0 < b * d ∧ b * d < 1000000000000000000000000 := by
  refine ⟨Int.mul_pos h1 h3, ?_⟩
  have := Int.mul_lt_mul h2 (Int.le_of_lt h4) h3 (by decide : (0 : Int) ≤ MM)
  exact this
theorem mulS {i j : Int} (h : 0 < j ∧ j < MM) : MulOk i j := mulC2 ⟨by have := MMv; omega, by have := MMv; omega⟩
theorem mulS1 {i j : Int} (h : -MM < i ∧ i < MM) : MulOk i j := mulC ⟨by have := MMv; omega, by have := MMv; omega⟩

def t_plus_f : TSD := sRet (dCall p_low_f (aCons (dBin rAdd (dBin rMulD (dBin rIxD (dVar 0) (dC (.int 0))) (dBin rIxD (dVar 1) (dC (.int 1)))) (dBin rMulD (dBin rIxD (dVar 1) (dC (.int 0))) (dBin rIxD (dVar 0) (dC (.int 1))))) (aCons (dBin rMulD (dBin rIxD (dVar 0) (dC (.int 1))) (dBin rIxD (dVar 1) (dC (.int 1)))) aNil)))
theorem sc_plus_f : FnScope ["one", "other"] ["one", "other"] (defScope s_plus_f) := ⟨rfl, rfl, rfl, by decide +kernel, rfl, by decide +kernel, by decide +kernel⟩
theorem ok_plus_f {G : Gx} (t : Mg G.mg) (hF : Has G "plus_f" s_plus_f) (h_low_f : DefOk G 2 "low_f" "low_f" s_low_f ["number", "den"] p_low_f) : DefOk G 3 "plus_f" "plus_f" s_plus_f ["one", "other"] p_plus_f := by
  refine def_ok hF sc_plus_f (fun ds cs P Ex h => by obtain ⟨_, _, _, _, rfl, _⟩ := h; rfl) (fun _ _ _ _ _ _ us hl => match us, hl with | [_, _], _ => rfl) fun f cd A outer s H E F m good => ⟨t_plus_f, simSs_one (simS_ret (simE_call good h_low_f (simA_cons (sAdd (sMul (simE_ix (sv 0) (simE_int)) (simE_ix (sv 1) (simE_int))) (sMul (simE_ix (sv 1) (simE_int)) (simE_ix (sv 0) (simE_int)))) (simA_cons (sMul (simE_ix (sv 0) (simE_int)) (simE_ix (sv 1) (simE_int))) simA_nil)))), fun ds cs P Ex hd hb hp => ?_⟩
  obtain ⟨a, b, c, d, rfl, b0, b1, d0, d1, q⟩ := hp
  have m := mul_pos_lt b0 b1 d0 d1
  refine ⟨_, _, rfl, rfl, _, _, rfl, rfl, mulS ⟨d0, d1⟩, _, _, rfl, rfl, _, _, rfl, rfl, mulS ⟨b0, b1⟩, _, _, rfl, rfl, _, _, rfl, rfl, mulS ⟨d0, d1⟩, ?_⟩
  exact ⟨_, _, rfl, by omega, by omega, ret_here q⟩
def t_times_f : TSD := sRet (dCall p_low_f (aCons (dBin rMulD (dBin rIxD (dVar 0) (dC (.int 0))) (dBin rIxD (dVar 1) (dC (.int 0)))) (aCons (dBin rMulD (dBin rIxD (dVar 0) (dC (.int 1))) (dBin rIxD (dVar 1) (dC (.int 1)))) aNil)))
theorem sc_times_f : FnScope ["one", "other"] ["one", "other"] (defScope s_times_f) := ⟨rfl, rfl, rfl, by decide +kernel, rfl, by decide +kernel, by decide +kernel⟩
theorem ok_times_f {G : Gx} (t : Mg G.mg) (hF : Has G "times_f" s_times_f) (h_low_f : DefOk G 2 "low_f" "low_f" s_low_f ["number", "den"] p_low_f) : DefOk G 3 "times_f" "times_f" s_times_f ["one", "other"] p_times_f := by
  refine def_ok hF sc_times_f (fun ds cs P Ex h => by obtain ⟨_, _, _, _, rfl, _⟩ := h; rfl) (fun _ _ _ _ _ _ us hl => match us, hl with | [_, _], _ => rfl) fun f cd A outer s H E F m good => ⟨t_times_f, simSs_one (simS_ret (simE_call good h_low_f (simA_cons (sMul (simE_ix (sv 0) (simE_int)) (simE_ix (sv 1) (simE_int))) (simA_cons (sMul (simE_ix (sv 0) (simE_int)) (simE_ix (sv 1) (simE_int))) simA_nil)))), fun ds cs P Ex hd hb hp => ?_⟩
  obtain ⟨a, b, c, d, rfl, a0, a1, b0, b1, d0, d1, q⟩ := hp
  have m := mul_pos_lt b0 b1 d0 d1
  refine ⟨_, _, rfl, rfl, _, _, rfl, rfl, mulS1 ⟨a0, a1⟩, _, _, rfl, rfl, _, _, rfl, rfl, mulS ⟨d0, d1⟩, ?_⟩
  exact ⟨_, _, rfl, by omega, by omega, ret_here q⟩
def t_compared_f : TSD := sSeq (sPar 2 3 (dBin rMulD (dBin rIxD (dVar 0) (dC (.int 0))) (dBin rIxD (dVar 1) (dC (.int 1)))) (dBin rMulD (dBin rIxD (dVar 1) (dC (.int 0))) (dBin rIxD (dVar 0) (dC (.int 1)))))
 (sRet (dIf (dTest (dBin rLt (dVar 2) (dVar 3))) (dNeg (dC (.int 1))) (dCallB rInt1 (aCons (dBin rGt (dVar 2) (dVar 3)) aNil))))
theorem sc_compared_f : FnScope ["one", "other", "left", "right"] ["one", "other"] (defScope s_compared_f) := ⟨rfl, rfl, rfl, by decide +kernel, rfl, by decide +kernel, by decide +kernel⟩
theorem ok_compared_f {G : Gx} (t : Mg G.mg) (hF : Has G "compared_f" s_compared_f)  : DefOk G 1 "compared_f" "compared_f" s_compared_f ["one", "other"] p_compared_f := by
  refine def_ok hF sc_compared_f (fun ds cs P Ex h => by obtain ⟨_, _, _, _, rfl, _⟩ := h; rfl) (fun _ _ _ _ _ _ us hl => match us, hl with | [_, _], _ => rfl) fun f cd A outer s H E F m good => ⟨t_compared_f, simSs_cons (simS_par 2 3 good.calm good.nd (sMul (simE_ix (sv 0) (simE_int)) (simE_ix (sv 1) (simE_int))) (sMul (simE_ix (sv 1) (simE_int)) (simE_ix (sv 0) (simE_int))))
 (simSs_one (simS_ret (simE_if (tLt good (sv 2) (sv 3)) (simE_neg (simE_int)) (cInt t.int (simA_cons (sGt good (sv 2) (sv 3)) simA_nil))))), fun ds cs P Ex hd hb hp => ?_⟩
  obtain ⟨a, b, c, d, rfl, b0, b1, d0, d1, q⟩ := hp
  refine ⟨_, _, rfl, rfl, _, _, rfl, rfl, mulS ⟨d0, d1⟩, _, _, rfl, rfl, _, _, rfl, rfl, mulS ⟨b0, b1⟩, ?_⟩
  unfold cmpI at q
  refine ift (fun h => ?_) (fun h => ?_)
  · rw [if_pos (by simpa using h)] at q
    exact ret_here q
  · rw [if_neg (by simpa using h)] at q
    by_cases h2 : c * b < a * d
    · rw [if_pos h2] at q
      show RetD _ _ _ _ (.int (if decide (c * b < a * d) = true then 1 else 0)) _
      rw [if_pos (by simpa using h2)]
      exact ret_here q
    · rw [if_neg h2] at q
      show RetD _ _ _ _ (.int (if decide (c * b < a * d) = true then 1 else 0)) _
      rw [if_neg (by simpa using h2)]
      exact ret_here q

def p_need_fractions (C_BadEffect : Addr) : PD := fun ds cs P Ex => ∃ d e : D, ds = [d, e] ∧ FracOk d cs ∧ FracOk e cs ∧ (fracB d = false → Ex C_BadEffect d cs) ∧ (fracB d = true → fracB e = false → Ex C_BadEffect e cs) ∧ (fracB d = true → fracB e = true → P .non cs)
def p_lowest (C_BadMany : Addr) : PD := fun ds cs P Ex => ∃ d e : D, ds = [d, e] ∧ known d cs ∧ known e cs ∧ (shortB d = false → Ex C_BadMany d cs) ∧ (shortB d = true → (shortB e = false ∨ e = .int 0) → Ex C_BadMany e cs) ∧ (∀ a b : Int, d = .int a → e = .int b → shortB d = true → shortB e = true → b ≠ 0 → P (lowD a b) cs)
theorem exd_here {K : PySem.W.Frag} {T : Tabl} {cs : CsL} {n : Nat} {C : Addr} {d : D} {Ex : ExW} (q : Ex C d cs) : ExD K T n Ex C d cs := ⟨d, cs, .refl, q⟩
theorem forD_nil {ck : CsL → Prop} {g : TGD} {b : TSD} {Ex : ExW} {sl : Sl} {cs : CsL} {P : EndsD} (h : ck cs) (q : P.nx sl cs) : forD ck g b Ex [] sl cs P := ⟨h, q⟩

def t_need_fractions (C_BadEffect : Addr) : TSD := sFor (wAny (dTup (aCons (dVar 0) (aCons (dVar 1) aNil)))) (tgName 2)
 (sIf (dNot (dTest (dCall p_is_fraction (aCons (dVar 2) aNil))))
 (sRaise C_BadEffect (dVar 2))
 (sNext))
theorem sc_need_fractions : FnScope ["one", "other", "thing"] ["one", "other"] (defScope s_need_fractions) := ⟨rfl, rfl, rfl, by decide +kernel, rfl, by decide +kernel, by decide +kernel⟩
theorem ok_need_fractions {G : Gx} (t : Mg G.mg) {fI cc cda Y : Addr} {C_BadEffect : Addr} (y_BadEffect : YC G.K C_BadEffect Y fI) (m_BadEffect : G.mg "BadEffect" = some (.ref C_BadEffect)) (yi : YI G.P G.K fI cc cda Y) (hF : Has G "need_fractions" s_need_fractions) (h_is_fraction : DefOk G 3 "is_fraction" "is_fraction" s_is_fraction ["thing"] p_is_fraction) : DefOk G 4 "need_fractions" "need_fractions" s_need_fractions ["one", "other"] (p_need_fractions C_BadEffect) := by
  refine def_ok hF sc_need_fractions (fun ds cs P Ex h => by obtain ⟨_, _, rfl, _⟩ := h; rfl) (fun _ _ _ _ _ _ us hl => match us, hl with | [_, _], _ => rfl) fun f cd A outer s H E F m good => ⟨t_need_fractions C_BadEffect, simSs_one (simS_for own_cx good.calm (simI_any (simE_tup (simA_cons (sv 0) (simA_cons (sv 1) simA_nil)))) (simG_name 2 (pg_name good.nd rfl (by first | exact .inl rfl | exact .inr rfl)))
 (simSs_one (simS_if (simT_not (simT_val (simE_call good h_is_fraction (simA_cons (sv 2) simA_nil))))
 (simSs_one (simS_raise good takes_cx y_BadEffect yi t.super m_BadEffect (sv 2)))
 (simSs_nil)))), fun ds cs P Ex hd hb hp => ?_⟩
  obtain ⟨d, e, rfl, h1, h2, q1, q2, q3⟩ := hp
  refine ⟨two_le, ⟨trivial, d, rfl, h1, ?_⟩⟩
  cases hf : fracB d with
  | false => exact exd_here (q1 hf)
  | true =>
    refine ⟨trivial, e, rfl, h2, ?_⟩
    cases hf2 : fracB e with
    | false => exact exd_here (q2 hf hf2)
    | true => exact ⟨trivial, ret_here (q3 hf hf2)⟩
def t_lowest (C_BadMany : Addr) : TSD := sSeq (sIf (dNot (dTest (dCall p_is_short (aCons (dVar 0) aNil))))
 (sRaise C_BadMany (dVar 0))
 (sNext))
 (sSeq (sIf (dOr (dNot (dTest (dCall p_is_short (aCons (dVar 1) aNil)))) (dTest (dBin (rEqvE false) (dVar 1) (dC (.int 0)))))
 (sRaise C_BadMany (dVar 1))
 (sNext))
 (sRet (dCall p_low_f (aCons (dVar 0) (aCons (dVar 1) aNil)))))
theorem sc_lowest : FnScope ["number", "den"] ["number", "den"] (defScope s_lowest) := ⟨rfl, rfl, rfl, by decide +kernel, rfl, by decide +kernel, by decide +kernel⟩
theorem ok_lowest {G : Gx} (t : Mg G.mg) {fI cc cda Y : Addr} {C_BadMany : Addr} (y_BadMany : YC G.K C_BadMany Y fI) (m_BadMany : G.mg "BadMany" = some (.ref C_BadMany)) (yi : YI G.P G.K fI cc cda Y) (hF : Has G "lowest" s_lowest) (h_low_f : DefOk G 2 "low_f" "low_f" s_low_f ["number", "den"] p_low_f) (h_is_short : DefOk G 2 "is_short" "is_short" s_is_short ["thing"] p_is_short) : DefOk G 3 "lowest" "lowest" s_lowest ["number", "den"] (p_lowest C_BadMany) := by
  refine def_ok hF sc_lowest (fun ds cs P Ex h => by obtain ⟨_, _, rfl, _⟩ := h; rfl) (fun _ _ _ _ _ _ us hl => match us, hl with | [_, _], _ => rfl) fun f cd A outer s H E F m good => ⟨t_lowest C_BadMany, simSs_cons (simS_if (simT_not (simT_val (simE_call good h_is_short (simA_cons (sv 0) simA_nil))))
 (simSs_one (simS_raise good takes_cx y_BadMany yi t.super m_BadMany (sv 0)))
 (simSs_nil))
 (simSs_cons (simS_if (SimW.t (simW_or (simT_not (simT_val (simE_call good h_is_short (simA_cons (sv 1) simA_nil)))) (simW_or1 (tEqE good (sv 1) (simE_int)))))
 (simSs_one (simS_raise good takes_cx y_BadMany yi t.super m_BadMany (sv 1)))
 (simSs_nil))
 (simSs_one (simS_ret (simE_call good h_low_f (simA_cons (sv 0) (simA_cons (sv 1) simA_nil)))))), fun ds cs P Ex hd hb hp => ?_⟩
  obtain ⟨d, e, rfl, h1, h2, q1, q2, q3⟩ := hp
  refine ⟨d, rfl, h1, ?_⟩
  cases hf : shortB d with
  | false => exact exd_here (q1 hf)
  | true =>
    refine ⟨e, rfl, h2, ?_⟩
    cases hf2 : shortB e with
    | false => exact exd_here (q2 hf (.inl hf2))
    | true =>
      obtain ⟨a, rfl⟩ := short_int hf
      obtain ⟨b, rfl⟩ := short_int hf2
      refine e_eqI ?_
      by_cases hb0 : b = 0
      · exact iftT (by simp [hb0]) (exd_here (q2 hf (.inr (by rw [hb0]))))
      · refine iftF (by simp [hb0]) ⟨a, b, rfl, hb0, ?_, ret_here (q3 a b rfl rfl hf hf2 hb0)⟩
        simp only [shortB, Bool.and_eq_true, decide_eq_true_eq] at hf2
        have := MMv
        omega

/-- two fractions, or the first that is none is told -/
def Two (C : Addr) (d e : D) (cs : CsL) (Ex : ExW) (P : Int → Int → Int → Int → Prop) : Prop := FracOk d cs ∧ FracOk e cs ∧ (fracB d = false → Ex C d cs) ∧ (fracB d = true → fracB e = false → Ex C e cs) ∧
  ∀ a b a' b' : Int, d = .tup [.int a, .int b] → e = .tup [.int a', .int b'] → fracB d = true → fracB e = true → P a b a' b'
def p_plus (C_BadEffect : Addr) : PD := fun ds cs P Ex => ∃ d e : D, ds = [d, e] ∧ Two C_BadEffect d e cs Ex fun a b a' b' => P (lowD (a * b' + a' * b) (b * b')) cs
def p_times (C_BadEffect : Addr) : PD := fun ds cs P Ex => ∃ d e : D, ds = [d, e] ∧ Two C_BadEffect d e cs Ex fun a b a' b' => P (lowD (a * a') (b * b')) cs
def p_compared (C_BadEffect : Addr) : PD := fun ds cs P Ex => ∃ d e : D, ds = [d, e] ∧ Two C_BadEffect d e cs Ex fun a b a' b' => P (.int (cmpI (a * b') (a' * b))) cs
theorem frac_is {d : D} (h : fracB d = true) : ∃ a b : Int, d = .tup [.int a, .int b] ∧ -MM < a ∧ a < MM ∧ 0 < b ∧ b < MM ∧ Int.gcd a b = 1 := by
  unfold fracB at h
  split at h
  · rename_i a b
    simp only [shortB, Bool.and_eq_true, decide_eq_true_eq] at h
    exact ⟨a, b, rfl, by omega, by omega, by omega, by omega, h.2.2.2⟩
  · cases h

def t_plus (C_BadEffect : Addr) : TSD := sSeq (sDrop (dCall (p_need_fractions C_BadEffect) (aCons (dVar 0) (aCons (dVar 1) aNil))))
 (sRet (dCall p_plus_f (aCons (dVar 0) (aCons (dVar 1) aNil))))
theorem sc_plus : FnScope ["one", "other"] ["one", "other"] (defScope s_plus) := ⟨rfl, rfl, rfl, by decide +kernel, rfl, by decide +kernel, by decide +kernel⟩
theorem ok_plus {G : Gx} (t : Mg G.mg) {C_BadEffect : Addr} (hF : Has G "plus" s_plus) (h_need_fractions : DefOk G 4 "need_fractions" "need_fractions" s_need_fractions ["one", "other"] (p_need_fractions C_BadEffect)) (h_plus_f : DefOk G 3 "plus_f" "plus_f" s_plus_f ["one", "other"] p_plus_f) : DefOk G 5 "plus" "plus" s_plus ["one", "other"] (p_plus C_BadEffect) := by
  refine def_ok hF sc_plus (fun ds cs P Ex h => by obtain ⟨_, _, rfl, _⟩ := h; rfl) (fun _ _ _ _ _ _ us hl => match us, hl with | [_, _], _ => rfl) fun f cd A outer s H E F m good => ⟨t_plus C_BadEffect, simSs_cons (simS_expr (simE_call good h_need_fractions (simA_cons (sv 0) (simA_cons (sv 1) simA_nil))))
 (simSs_one (simS_ret (simE_call good h_plus_f (simA_cons (sv 0) (simA_cons (sv 1) simA_nil))))), fun ds cs P Ex hd hb hp => ?_⟩
  obtain ⟨d, e, rfl, h1, h2, q1, q2, q3⟩ := hp
  refine ⟨d, e, rfl, h1, h2, fun h => exd_here (q1 h), fun h h' => exd_here (q2 h h'), fun h h' => ?_⟩
  obtain ⟨a, b, rfl, a0, a1, b0, b1, _⟩ := frac_is h
  obtain ⟨c, d, rfl, c0, c1, d0, d1, _⟩ := frac_is h'
  exact ⟨a, b, c, d, rfl, b0, b1, d0, d1, ret_here (q3 a b c d rfl rfl h h')⟩
def t_times (C_BadEffect : Addr) : TSD := sSeq (sDrop (dCall (p_need_fractions C_BadEffect) (aCons (dVar 0) (aCons (dVar 1) aNil))))
 (sRet (dCall p_times_f (aCons (dVar 0) (aCons (dVar 1) aNil))))
theorem sc_times : FnScope ["one", "other"] ["one", "other"] (defScope s_times) := ⟨rfl, rfl, rfl, by decide +kernel, rfl, by decide +kernel, by decide +kernel⟩
theorem ok_times {G : Gx} (t : Mg G.mg) {C_BadEffect : Addr} (hF : Has G "times" s_times) (h_need_fractions : DefOk G 4 "need_fractions" "need_fractions" s_need_fractions ["one", "other"] (p_need_fractions C_BadEffect)) (h_times_f : DefOk G 3 "times_f" "times_f" s_times_f ["one", "other"] p_times_f) : DefOk G 5 "times" "times" s_times ["one", "other"] (p_times C_BadEffect) := by
  refine def_ok hF sc_times (fun ds cs P Ex h => by obtain ⟨_, _, rfl, _⟩ := h; rfl) (fun _ _ _ _ _ _ us hl => match us, hl with | [_, _], _ => rfl) fun f cd A outer s H E F m good => ⟨t_times C_BadEffect, simSs_cons (simS_expr (simE_call good h_need_fractions (simA_cons (sv 0) (simA_cons (sv 1) simA_nil))))
 (simSs_one (simS_ret (simE_call good h_times_f (simA_cons (sv 0) (simA_cons (sv 1) simA_nil))))), fun ds cs P Ex hd hb hp => ?_⟩
  obtain ⟨d, e, rfl, h1, h2, q1, q2, q3⟩ := hp
  refine ⟨d, e, rfl, h1, h2, fun h => exd_here (q1 h), fun h h' => exd_here (q2 h h'), fun h h' => ?_⟩
  obtain ⟨a, b, rfl, a0, a1, b0, b1, _⟩ := frac_is h
  obtain ⟨c, d, rfl, c0, c1, d0, d1, _⟩ := frac_is h'
  exact ⟨a, b, c, d, rfl, a0, a1, b0, b1, d0, d1, ret_here (q3 a b c d rfl rfl h h')⟩
def t_compared (C_BadEffect : Addr) : TSD := sSeq (sDrop (dCall (p_need_fractions C_BadEffect) (aCons (dVar 0) (aCons (dVar 1) aNil))))
 (sRet (dCall p_compared_f (aCons (dVar 0) (aCons (dVar 1) aNil))))
theorem sc_compared : FnScope ["one", "other"] ["one", "other"] (defScope s_compared) := ⟨rfl, rfl, rfl, by decide +kernel, rfl, by decide +kernel, by decide +kernel⟩
theorem ok_compared {G : Gx} (t : Mg G.mg) {C_BadEffect : Addr} (hF : Has G "compared" s_compared) (h_need_fractions : DefOk G 4 "need_fractions" "need_fractions" s_need_fractions ["one", "other"] (p_need_fractions C_BadEffect)) (h_compared_f : DefOk G 1 "compared_f" "compared_f" s_compared_f ["one", "other"] p_compared_f) : DefOk G 5 "compared" "compared" s_compared ["one", "other"] (p_compared C_BadEffect) := by
  refine def_ok hF sc_compared (fun ds cs P Ex h => by obtain ⟨_, _, rfl, _⟩ := h; rfl) (fun _ _ _ _ _ _ us hl => match us, hl with | [_, _], _ => rfl) fun f cd A outer s H E F m good => ⟨t_compared C_BadEffect, simSs_cons (simS_expr (simE_call good h_need_fractions (simA_cons (sv 0) (simA_cons (sv 1) simA_nil))))
 (simSs_one (simS_ret (simE_call good h_compared_f (simA_cons (sv 0) (simA_cons (sv 1) simA_nil))))), fun ds cs P Ex hd hb hp => ?_⟩
  obtain ⟨d, e, rfl, h1, h2, q1, q2, q3⟩ := hp
  refine ⟨d, e, rfl, h1, h2, fun h => exd_here (q1 h), fun h h' => exd_here (q2 h h'), fun h h' => ?_⟩
  obtain ⟨a, b, rfl, a0, a1, b0, b1, _⟩ := frac_is h
  obtain ⟨c, d, rfl, c0, c1, d0, d1, _⟩ := frac_is h'
  exact ⟨a, b, c, d, rfl, b0, b1, d0, d1, ret_here (q3 a b c d rfl rfl h h')⟩
end K01


namespace K01
open PySem PySem.Spec PyProof.Rows L2 Sim
open Kit0

def lettersS : Str := "abcdefghijklmnopqrstuvwxyz"
def signsS : Str := "abcdefghijklmnopqrstuvwxyz0123456789"
/-- what is a name -/
def nameB : D → Bool | .str z => (decide (1 ≤ z.length) && decide (z.length ≤ 8)) && ((match z.cps.toList with | c :: _ => decide (c ∈ lettersS.cps.toList) | [] => false) && z.cps.toList.all fun c => decide (c ∈ signsS.cps.toList)) | _ => false
/-- what may be handed to is_name -/
def NameOk (d : D) (cs : CsL) : Prop := known d cs ∧ ∀ z, d = .str z → z.length ≤ sizeLine
def p_is_name : PD := fun ds cs P Ex => ∃ d, ds = [d] ∧ NameOk d cs ∧ P (.bl (nameB d)) cs
theorem name_oth {d : D} (h : ∀ z, d ≠ .str z) : nameB d = false := by
  cases d with
  | str z => exact absurd rfl (h z)
  | _ => rfl
theorem len_toList (z : Str) : z.cps.toList.length = z.length := by simp [Str.length]
theorem head_ok {z : Str} (h : 1 ≤ z.length) : ∃ c r, z.cps.toList = c :: r := by
  have := len_toList z
  cases h2 : z.cps.toList with
  | nil => rw [h2] at this; simp at this; omega
  | cons c r => exact ⟨c, r, rfl⟩
theorem inS {neg : Bool} {c : Nat} {z : Str} {cs : CsL} {Q : DK} (q : Q (.bl (decide (c ∈ z.cps.toList) != neg)) cs) : rInS neg (.str ⟨#[c]⟩) (.str z) cs Q := by unfold rInS; exact ⟨c, rfl, q⟩

def t_is_name : TSD := sSeq (sIf (dOr (dNot (dTest (dCallB rIsi (aCons (dVar 0) (aCons (dC (.ty "str")) aNil))))) (dNot (dTest (dChain rLe rLe (dC (.int 1)) (dCallB rLen (aCons (dVar 0) aNil)) (dC (.int 8))))))
 (sRet (dC (.bl false)))
 (sNext))
 (sRet (dAndV (dBin (rInS false) (dBin rIxD (dVar 0) (dC (.int 0))) (dC (.str "abcdefghijklmnopqrstuvwxyz"))) (dCallB Sim.rAll (aCons (dLc (wAny (dVar 0)) (.nm 1) tYesD (dBin (rInS false) (dVar 1) (dC (.str "abcdefghijklmnopqrstuvwxyz0123456789"))) [1]) aNil))))
theorem sc_is_name : FnScope ["thing", "sign"] ["thing"] (defScope s_is_name) := ⟨rfl, rfl, rfl, by decide +kernel, rfl, by decide +kernel, by decide +kernel⟩
theorem ok_is_name {G : Gx} (t : Mg G.mg) (hF : Has G "is_name" s_is_name)  : DefOk G 1 "is_name" "is_name" s_is_name ["thing"] p_is_name := by
  refine def_ok hF sc_is_name (fun ds cs P Ex h => by obtain ⟨_, rfl, _⟩ := h; rfl) (fun _ _ _ _ _ _ us hl => match us, hl with | [_], _ => rfl) fun f cd A outer s H E F m good => ⟨t_is_name, simSs_cons (simS_if (SimW.t (simW_or (simT_not (simT_val (cIsi t.isinstance (simA_cons (sv 0) (simA_cons (simE_ty (n := "str") t.str) simA_nil))))) (simW_or1 (simT_not (tLeLe (simE_int) (cLen t.len (simA_cons (sv 0) simA_nil)) (simE_gint t.LONGEST_NAME.choose_spec))))))
 (simSs_one (simS_ret (simE_bl)))
 (simSs_nil))
 (simSs_one (simS_ret (simE_and (sInS good (simE_ix (sv 0) (simE_int)) (simE_gstr t.LETTERS.choose_spec)) (simE_one (cAll good t.all (simA_cons (simE_lc [("sign", 1)] (.nm 1) good.calm good.nd (simI_any (sv 0)) (blk_okP ["thing", "sign"] (defScope s_is_name) rfl rfl (by decide +kernel)) (by decide) (fun _ _ _ _ _ => pg_name good.nd rfl (by first | exact .inl rfl | exact .inr rfl)) (fun _ _ _ _ _ => simTs_nil) (fun _ _ _ _ _ => sInS (good_blk good) (sv 1) (simE_gstr t.SIGNS.choose_spec))) simA_nil)))))), fun ds cs P Ex hd hb hp => ?_⟩
  obtain ⟨d, rfl, ⟨hk, hz⟩, q⟩ := hp
  cases hk.kd with
  | int i => exact isiF "int" rfl (ret_here q)
  | bl b => exact isiF "bool" rfl (ret_here q)
  | tup xs => exact isiF "tuple" rfl (ret_here q)
  | oth t h1 h2 h3 h4 h5 h6 =>
    rw [name_oth h5] at q
    rcases h2 with e | e | e <;> subst e
    · exact isiF "NoneType" h1 (ret_here q)
    · exact isiF "list" h1 (ret_here q)
    · exact isiF "dict" h1 (ret_here q)
  | str z =>
    have hl := hz z rfl
    refine isiT "str" rfl (chLeLe 1 z.length 8 (fun _ h => h) (fun _ h => ⟨_, by simp only [lenD]; rw [if_pos hl], h⟩) (fun _ h => h) ?_)
    cases h8 : (decide (1 ≤ z.length) && decide (z.length ≤ 8)) with
    | false =>
      have e : nameB (.str z) = false := by simp only [nameB, h8, Bool.false_and]
      rw [e] at q
      refine iftT ?_ (ret_here q)
      rw [Bool.and_eq_false_iff] at h8
      simp only [decide_eq_false_iff_not] at h8
      simp only [Bool.not_eq_true', Bool.and_eq_false_iff, decide_eq_false_iff_not]
      omega
    | true =>
      have h8' := h8
      rw [Bool.and_eq_true, decide_eq_true_eq, decide_eq_true_eq] at h8'
      refine iftF ?_ ?_
      · simp only [Bool.not_eq_false', Bool.and_eq_true, decide_eq_true_eq]
        omega
      obtain ⟨c, r, hc⟩ := head_ok h8'.1
      have hn : nameB (.str z) = (decide (c ∈ lettersS.cps.toList) && z.cps.toList.all fun c => decide (c ∈ signsS.cps.toList)) := by
        simp only [nameB, h8, Bool.true_and, hc]
      rw [hn] at q
      refine ⟨hl, c, by rw [hc]; simp [atI, ixN], ?_⟩
      refine inS ?_
      rw [Bool.bne_false]
      cases hcl : decide (c ∈ lettersS.cps.toList) with
      | false =>
        have hcl' : decide (c ∈ (Str.ofString "abcdefghijklmnopqrstuvwxyz").cps.toList) = false := hcl
        rw [hcl']
        rw [hcl] at q
        exact ret_here q
      | true =>
        have hcl' : decide (c ∈ (Str.ofString "abcdefghijklmnopqrstuvwxyz").cps.toList) = true := hcl
        rw [hcl']
        rw [hcl, Bool.true_and] at q
        refine lc_map (fun x => match x with | .str s => .bl (s.cps.toList.all fun c => decide (c ∈ signsS.cps.toList)) | _ => .non) (z.cps.toList.map fun c => D.str ⟨#[c]⟩) (by rw [List.length_map, len_toList]; exact hl) (fun _ => trivial) (fun x hx acc Q q => ?_) ?_
        · obtain ⟨k, _, rfl⟩ := List.mem_map.mp hx
          refine inS ?_
          rw [Bool.bne_false]
          simpa [signsS] using q
        · refine all_bl (bs := z.cps.toList.map fun c => decide (c ∈ signsS.cps.toList)) (by rw [lst_new]; simp [List.map_map, Function.comp_def]) (ret_same hb (by simp only [Bel]) ?_)
          rw [List.all_map]
          exact q
end K01


namespace K01
open PySem PySem.Spec PyProof.Rows L2 Sim
open Kit0

/-- a sign that no name has -/
def offS : D → List D | .str s => if s.cps.toList.all (fun c => decide (c ∈ signsS.cps.toList)) = true then [] else [.int 1] | _ => []
theorem offS_sign (k : Nat) : offS (.str ⟨#[k]⟩) = if decide (k ∈ signsS.cps.toList) = true then [] else [.int 1] := by
  have hs : (Str.mk #[k]).cps.toList.all (fun c => decide (c ∈ signsS.cps.toList)) = decide (k ∈ signsS.cps.toList) := by simp
  show (if (Str.mk #[k]).cps.toList.all (fun c => decide (c ∈ signsS.cps.toList)) = true then [] else [D.int 1]) = _
  rw [hs]
theorem offS_len (x : D) : (offS x).length ≤ 1 := by
  unfold offS
  split
  · split <;> simp
  · simp

theorem sc__law_deck : FnScope ["script", "seed", "cell"] ["script"] (defScope s__law_deck) := ⟨rfl, rfl, rfl, by decide +kernel, rfl, by decide +kernel, by decide +kernel⟩
theorem ok__law_deck {G : Gx} (t : Mg G.mg) (hF : Has G "_law_deck" s__law_deck)  : DefOk G 1 "_law_deck" "_law_deck" s__law_deck ["script"] p__law_deck := by
  refine def_ok hF sc__law_deck (fun ds cs P Ex h => by obtain ⟨_, rfl, _⟩ := h; rfl) (fun _ _ _ _ _ _ us hl => match us, hl with | [_], _ => rfl) fun f cd A outer s H E F m good => ⟨t_deck 21490001, simSs_cons (simS_set 1 good.nd (simE_int))
 (simSs_cons (simS_for own_cx good.calm (simI_any (simE_slice (sv 0) simO_none (simO_some (simE_int)))) (simG_name 2 (pg_name good.nd rfl (by first | exact .inl rfl | exact .inr rfl)))
 (simSs_one (simS_set 1 good.nd (sMod (cInt t.int (simA_cons (sAdd (sAdd (sMul (sv 1) (simE_int)) (sMod (cInt t.int (simA_cons (sv 2) simA_nil)) (simE_int))) (simE_int)) simA_nil)) (simE_int)))))
 (simSs_one (simS_ret (simE_disp (trs := [(_, _), (_, _), (_, _)]) (simP_cons (simE_str) (simE_rev (cList t.list (simA_cons (simE_slice (sv 0) simO_none (simO_some (simE_int))) simA_nil))) (simP_cons (simE_str) (sv 1) (simP_cons (simE_str) (simE_int) simP_nil))))))), fun ds cs P Ex hd hb hp => ?_⟩
  obtain ⟨ns, rfl, h63, k⟩ := hp
  exact read_deck h63 hb fun c1 c2 h => k c1 c2 h
theorem sc__law_draw : FnScope ["deck", "many", "number", "cell"] ["deck", "many"] (defScope s__law_draw) := ⟨rfl, rfl, rfl, by decide +kernel, rfl, by decide +kernel, by decide +kernel⟩
theorem ok__law_draw {G : Gx} (t : Mg G.mg) (hF : Has G "_law_draw" s__law_draw)  : DefOk G 1 "_law_draw" "_law_draw" s__law_draw ["deck", "many"] p__law_draw := by
  refine def_ok hF sc__law_draw (fun ds cs P Ex h => by obtain ⟨_, _, _, rfl, _⟩ := h; rfl) (fun _ _ _ _ _ _ us hl => match us, hl with | [_, _], _ => rfl) fun f cd A outer s H E F m good => ⟨t__law_draw, simSs_cons (simS_dput (by have := good.hu; omega) (sv 0) (simE_str) (sAdd (simE_dget (by have := good.hu; omega) (sv 0) (simE_str)) (simE_int)))
 (simSs_cons (simS_set 2 good.nd (sAdd (simE_dget (by have := good.hu; omega) (sv 0) (simE_str)) (sMul (simE_int) (simE_dget (by have := good.hu; omega) (sv 0) (simE_str)))))
 (simSs_cons (simS_if (tNeE good (simE_dget (by have := good.hu; omega) (sv 0) (simE_str)) (simE_lst simA_nil))
 (simSs_cons (simS_set 3 good.nd (mPop0 (simE_dget (by have := good.hu; omega) (sv 0) (simE_str))))
 (simSs_cons (simS_if (tGe good (sv 3) (sPow (simE_int) (simE_int)))
 (simSs_cons (simS_expr (mApp (simE_dget (by have := good.hu; omega) (sv 0) (simE_str)) (simA_cons (sFdvU (sv 3) (cMax2 good t.max (simA_cons (simE_int) (simA_cons (sv 1) simA_nil)))) simA_nil)))
 (simSs_one (simS_ret (sMod (cInt t.int (simA_cons (sv 3) simA_nil)) (sv 1)))))
 (simSs_nil))
 (simSs_one (simS_set 2 good.nd (sAdd (sv 2) (sMod (cInt t.int (simA_cons (sv 3) simA_nil)) (simE_int)))))))
 (simSs_nil))
 (simSs_cons (simS_set 2 good.nd (sMod (cInt t.int (simA_cons (sAdd (sMul (sv 2) (simE_int)) (simE_int)) simA_nil)) (simE_int)))
 (simSs_cons (simS_set 2 good.nd (sMod (cInt t.int (simA_cons (sAdd (sAdd (sMul (sv 2) (sv 2)) (sMul (simE_int) (simE_dget (by have := good.hu; omega) (sv 0) (simE_str)))) (simE_int)) simA_nil)) (simE_int)))
 (simSs_cons (simS_set 2 good.nd (sMod (cInt t.int (simA_cons (sMul (sv 2) (simE_int)) simA_nil)) (simE_int)))
 (simSs_one (simS_ret (sMod (cInt t.int (simA_cons (sFdvU (sv 2) (simE_int)) simA_nil)) (sv 1))))))))), fun ds cs P Ex hd hb hp => ?_⟩
  obtain ⟨dk, ck, many, rfl, ⟨cells, mixed, draws, Dk⟩, h1, h2, k⟩ := hp
  exact read_draw Dk h1 h2 fun r cs' G a b c d => ret_deck hb c d bel_int (k r cs' a b c d)
theorem sc__law_pick : FnScope ["deck", "some"] ["deck", "some"] (defScope s__law_pick) := ⟨rfl, rfl, rfl, by decide +kernel, rfl, by decide +kernel, by decide +kernel⟩
theorem ok__law_pick {G : Gx} (t : Mg G.mg) (hF : Has G "_law_pick" s__law_pick) (h__law_draw : DefOk G 1 "_law_draw" "_law_draw" s__law_draw ["deck", "many"] p__law_draw) : DefOk G 2 "_law_pick" "_law_pick" s__law_pick ["deck", "some"] p__law_pick := by
  refine def_ok hF sc__law_pick (fun ds cs P Ex h => by obtain ⟨_, _, _, _, rfl, _⟩ := h; rfl) (fun _ _ _ _ _ _ us hl => match us, hl with | [_, _], _ => rfl) fun f cd A outer s H E F m good => ⟨t__law_pick, simSs_one (simS_ret (simE_ix (sv 1) (simE_call good h__law_draw (simA_cons (sv 0) (simA_cons (cLen t.len (simA_cons (sv 1) simA_nil)) simA_nil))))), fun ds cs P Ex hd hb hp => ?_⟩
  obtain ⟨dk, ck, d, xs, rfl, A, I, hn, hl, k⟩ := hp
  simp only [BelL] at hd
  refine read_pick A I hn hl fun x cs' hx A' S' => ?_
  have h := ret_deck (K := G.K) (T := G.T) (G := []) (d := x) (P := P) hb A' S' (I.bel hd.2.1 hb x hx) (k x cs' hx A' S')
  rwa [List.append_nil] at h
theorem sc__law_same : FnScope ["told", "due", "todo", "one", "other"] ["told", "due"] (defScope s__law_same) := ⟨rfl, rfl, rfl, by decide +kernel, rfl, by decide +kernel, by decide +kernel⟩
theorem ok__law_same {G : Gx} (t : Mg G.mg) (hF : Has G "_law_same" s__law_same)  : DefOk G 1 "_law_same" "_law_same" s__law_same ["told", "due"] p__law_same := by
  refine def_ok hF sc__law_same (fun ds cs P Ex h => by obtain ⟨_, _, _, rfl, _⟩ := h; rfl) (fun _ _ _ _ _ _ us hl => match us, hl with | [_, _], _ => rfl) fun f cd A outer s H E F m good => ⟨t__law_same, simSs_cons (simS_set 2 good.nd (simE_lst (simA_cons (simE_tup (simA_cons (sv 0) (simA_cons (sv 1) simA_nil))) simA_nil)))
 (simSs_cons (simS_while own_cx (tNeE good (sv 2) (simE_lst simA_nil))
 (simSs_cons (simS_asg (mPop0 (sv 2)) (simG_tup good.calm (simGs_cons (simG_name 3 (pg_name good.nd rfl (by first | exact .inl rfl | exact .inr rfl))) (simGs_cons (simG_name 4 (pg_name good.nd rfl (by first | exact .inl rfl | exact .inr rfl))) simGs_nil))))
 (simSs_one (simS_if (SimW.t (simW_or (simT_val (cIsi t.isinstance (simA_cons (sv 4) (simA_cons (simE_ty (n := "tuple") t.tuple) simA_nil)))) (simW_or1 (simT_val (cIsi t.isinstance (simA_cons (sv 4) (simA_cons (simE_ty (n := "list") t.list) simA_nil)))))))
 (simSs_cons (simS_if (SimW.t (simW_or (tNeE good (cIsi t.isinstance (simA_cons (sv 3) (simA_cons (simE_ty (n := "tuple") t.tuple) simA_nil))) (cIsi t.isinstance (simA_cons (sv 4) (simA_cons (simE_ty (n := "tuple") t.tuple) simA_nil)))) (simW_or1 (tNeE good (cIsi t.isinstance (simA_cons (sv 3) (simA_cons (simE_ty (n := "list") t.list) simA_nil))) (cIsi t.isinstance (simA_cons (sv 4) (simA_cons (simE_ty (n := "list") t.list) simA_nil)))))))
 (simSs_one (simS_ret (simE_bl)))
 (simSs_nil))
 (simSs_cons (simS_if (tNeE good (cLen t.len (simA_cons (sv 3) simA_nil)) (cLen t.len (simA_cons (sv 4) simA_nil)))
 (simSs_one (simS_ret (simE_bl)))
 (simSs_nil))
 (simSs_one (simS_expr (mExt (sv 2) (simA_cons (simE_listZip good.calm t.list t.zip (simA_cons (sv 3) (simA_cons (sv 4) simA_nil))) simA_nil))))))
 (simSs_one (simS_if (simT_val (cIsi t.isinstance (simA_cons (sv 4) (simA_cons (simE_ty (n := "dict") t.dict) simA_nil))))
 (simSs_one (simS_if (SimW.t (simW_or (simT_not (simT_val (cIsi t.isinstance (simA_cons (sv 3) (simA_cons (simE_ty (n := "dict") t.dict) simA_nil))))) (simW_or1 (tNeE good (sv 3) (sv 4)))))
 (simSs_one (simS_ret (simE_bl)))
 (simSs_nil)))
 (simSs_one (simS_if (tIsN good (sv 4) (simE_non))
 (simSs_one (simS_if (tNotN good (sv 3) (simE_non))
 (simSs_one (simS_ret (simE_bl)))
 (simSs_nil)))
 (simSs_one (simS_if (simT_val (cIsi t.isinstance (simA_cons (sv 4) (simA_cons (simE_ty (n := "str") t.str) simA_nil))))
 (simSs_one (simS_if (SimW.t (simW_or (simT_not (simT_val (cIsi t.isinstance (simA_cons (sv 3) (simA_cons (simE_ty (n := "str") t.str) simA_nil))))) (simW_or1 (tNeE good (sv 3) (sv 4)))))
 (simSs_one (simS_ret (simE_bl)))
 (simSs_nil)))
 (simSs_one (simS_if (SimW.t (simW_or (simT_not (simT_val (cIsi t.isinstance (simA_cons (sv 3) (simA_cons (simE_ty (n := "int") t.int) simA_nil))))) (simW_or (tNeE good (cIsi t.isinstance (simA_cons (sv 3) (simA_cons (simE_ty (n := "bool") t.bool) simA_nil))) (cIsi t.isinstance (simA_cons (sv 4) (simA_cons (simE_ty (n := "bool") t.bool) simA_nil)))) (simW_or1 (tNeE good (sv 3) (sv 4))))))
 (simSs_one (simS_ret (simE_bl)))
 (simSs_nil)))))))))))))
 (simSs_one (simS_ret (simE_bl)))), fun ds cs P Ex hd hb hp => ?_⟩
  obtain ⟨d, e, n, rfl, h, hn, q⟩ := hp
  exact read_same h hn hb q

def p__law_is_name : PD := p_is_name
def p__law_lowest : PD := fun ds cs P Ex => ∃ a b : Int, ds = [.int a, .int b] ∧ b ≠ 0 ∧ b.natAbs < 10 ^ 100 ∧ P (lowD a b) cs

def t__law_is_name : TSD := sSeq (sIf (dOr (dNot (dTest (dCallB rIsi (aCons (dVar 0) (aCons (dC (.ty "str")) aNil))))) (dOr (dNot (dTest (dChain rLe rLe (dC (.int 1)) (dCallB rLen (aCons (dVar 0) aNil)) (dC (.int 8))))) (dTest (dBin (rInS true) (dBin rIxD (dVar 0) (dC (.int 0))) (dC (.str "abcdefghijklmnopqrstuvwxyz"))))))
 (sRet (dC (.bl false)))
 (sNext))
 (sRet (dBin (rEqvE false) (dLc (wAny (dVar 0)) (.nm 1) (dTest (dBin (rInS true) (dVar 1) (dC (.str "abcdefghijklmnopqrstuvwxyz0123456789")))) (dC (.int 1)) [1]) (dLst aNil)))
theorem sc__law_is_name : FnScope ["thing", "sign"] ["thing"] (defScope s__law_is_name) := ⟨rfl, rfl, rfl, by decide +kernel, rfl, by decide +kernel, by decide +kernel⟩
theorem ok__law_is_name {G : Gx} (t : Mg G.mg) (hF : Has G "_law_is_name" s__law_is_name)  : DefOk G 1 "_law_is_name" "_law_is_name" s__law_is_name ["thing"] p__law_is_name := by
  refine def_ok hF sc__law_is_name (fun ds cs P Ex h => by obtain ⟨_, rfl, _⟩ := h; rfl) (fun _ _ _ _ _ _ us hl => match us, hl with | [_], _ => rfl) fun f cd A outer s H E F m good => ⟨t__law_is_name, simSs_cons (simS_if (SimW.t (simW_or (simT_not (simT_val (cIsi t.isinstance (simA_cons (sv 0) (simA_cons (simE_ty (n := "str") t.str) simA_nil))))) (simW_or (simT_not (tLeLe (simE_int) (cLen t.len (simA_cons (sv 0) simA_nil)) (simE_int))) (simW_or1 (tNinS good (simE_ix (sv 0) (simE_int)) (simE_str))))))
 (simSs_one (simS_ret (simE_bl)))
 (simSs_nil))
 (simSs_one (simS_ret (sEqE good (simE_lc [("sign", 1)] (.nm 1) good.calm good.nd (simI_any (sv 0)) (blk_okP ["thing", "sign"] (defScope s__law_is_name) rfl rfl (by decide +kernel)) (by decide) (fun _ _ _ _ _ => pg_name good.nd rfl (by first | exact .inl rfl | exact .inr rfl)) (fun _ _ _ _ _ => simTs_one (tNinS (good_blk good) (sv 1) (simE_str))) (fun _ _ _ _ _ => simE_int)) (simE_lst simA_nil)))), fun ds cs P Ex hd hb hp => ?_⟩
  obtain ⟨d, rfl, ⟨hk, hz⟩, q⟩ := hp
  cases hk.kd with
  | int i => exact isiF "int" rfl (ret_here q)
  | bl b => exact isiF "bool" rfl (ret_here q)
  | tup xs => exact isiF "tuple" rfl (ret_here q)
  | oth t h1 h2 h3 h4 h5 h6 =>
    rw [name_oth h5] at q
    rcases h2 with e | e | e <;> subst e
    · exact isiF "NoneType" h1 (ret_here q)
    · exact isiF "list" h1 (ret_here q)
    · exact isiF "dict" h1 (ret_here q)
  | str z =>
    have hl := hz z rfl
    refine isiT "str" rfl (chLeLe 1 z.length 8 (fun _ h => h) (fun _ h => ⟨_, by simp only [lenD]; rw [if_pos hl], h⟩) (fun _ h => h) ?_)
    cases h8 : (decide (1 ≤ z.length) && decide (z.length ≤ 8)) with
    | false =>
      have e : nameB (.str z) = false := by simp only [nameB, h8, Bool.false_and]
      rw [e] at q
      refine iftT ?_ (ret_here q)
      rw [Bool.and_eq_false_iff] at h8
      simp only [decide_eq_false_iff_not] at h8
      simp only [Bool.not_eq_true', Bool.and_eq_false_iff, decide_eq_false_iff_not]
      omega
    | true =>
      have h8' := h8
      rw [Bool.and_eq_true, decide_eq_true_eq, decide_eq_true_eq] at h8'
      refine iftF ?_ ?_
      · simp only [Bool.not_eq_false', Bool.and_eq_true, decide_eq_true_eq]
        omega
      obtain ⟨c, r, hc⟩ := head_ok h8'.1
      have hn : nameB (.str z) = (decide (c ∈ lettersS.cps.toList) && z.cps.toList.all fun c => decide (c ∈ signsS.cps.toList)) := by
        simp only [nameB, h8, Bool.true_and, hc]
      rw [hn] at q
      refine ⟨hl, c, by rw [hc]; simp [atI, ixN], ?_⟩
      refine inS ?_
      cases hcl : decide (c ∈ lettersS.cps.toList) with
      | false =>
        have hcl' : decide (c ∈ (Str.ofString "abcdefghijklmnopqrstuvwxyz").cps.toList) = false := hcl
        rw [hcl']
        rw [hcl] at q
        exact iftT rfl (ret_here q)
      | true =>
        have hcl' : decide (c ∈ (Str.ofString "abcdefghijklmnopqrstuvwxyz").cps.toList) = true := hcl
        rw [hcl']
        rw [hcl, Bool.true_and] at q
        refine iftF rfl ?_
        refine lc_gen offS (z.cps.toList.map fun c => D.str ⟨#[c]⟩) (by rw [List.length_map, len_toList]; exact hl) offS_len (fun _ => trivial) (fun x hx acc W hl hW => ?_) ?_
        · obtain ⟨k, _, rfl⟩ := List.mem_map.mp hx
          refine inS ?_
          rw [offS_sign] at hW
          cases hk : decide (k ∈ signsS.cps.toList) with
          | true =>
            have hk' : decide (k ∈ (Str.ofString "abcdefghijklmnopqrstuvwxyz0123456789").cps.toList) = true := hk
            rw [hk']
            rw [hk, if_pos rfl, List.append_nil] at hW
            exact iftF rfl hW
          | false =>
            have hk' : decide (k ∈ (Str.ofString "abcdefghijklmnopqrstuvwxyz0123456789").cps.toList) = false := hk
            rw [hk']
            rw [hk, if_neg Bool.false_ne_true] at hW
            exact iftT rfl ⟨acc, by simp, hl, by simpa using hW⟩
        · refine ⟨Nat.zero_le _, ?_⟩
          refine e_emp (z.cps.toList.all fun c => decide (c ∈ signsS.cps.toList)) (lst_cell (by rw [List.getElem?_append_left (by simp)]; simp; rfl)) lst_new ?_ ?_
          · rw [Bool.bne_false, List.flatMap_map]
            generalize z.cps.toList = l
            induction l with
            | nil => rfl
            | cons a l ih =>
              rw [List.flatMap_cons, List.all_cons, offS_sign]
              cases ha : decide (a ∈ signsS.cps.toList) with
              | true => rw [if_pos rfl, List.nil_append, Bool.true_and]; exact ih
              | false => rw [if_neg Bool.false_ne_true]; rfl
          · rw [List.append_assoc]
            exact ret_same hb bel_bl q
def t__law_lowest : TSD := sSeq (sPar 2 3 (dCallB rAbs (aCons (dVar 0) aNil)) (dCallB rAbs (aCons (dVar 1) aNil)))
 (sSeq (sWhile (dTest (dBin rGt (dVar 3) (dC (.int 0))))
 (sPar 2 3 (dVar 3) (dBin rMod (dCallB rInt1 (aCons (dVar 2) aNil)) (dVar 3))))
 (sSeq (sSet 4 (dIf (dTest (dBin rGt (dVar 1) (dC (.int 0)))) (dC (.int 1)) (dNeg (dC (.int 1)))))
 (sRet (dTup (aCons (dBin rFdvU (dBin rMulD (dVar 4) (dVar 0)) (dVar 2)) (aCons (dBin rFdvU (dBin rMulD (dVar 4) (dVar 1)) (dVar 2)) aNil))))))
theorem sc__law_lowest : FnScope ["top", "bottom", "one", "other", "sign"] ["top", "bottom"] (defScope s__law_lowest) := ⟨rfl, rfl, rfl, by decide +kernel, rfl, by decide +kernel, by decide +kernel⟩
theorem ok__law_lowest {G : Gx} (t : Mg G.mg) (hF : Has G "_law_lowest" s__law_lowest)  : DefOk G 1 "_law_lowest" "_law_lowest" s__law_lowest ["top", "bottom"] p__law_lowest := by
  refine def_ok hF sc__law_lowest (fun ds cs P Ex h => by obtain ⟨_, _, rfl, _⟩ := h; rfl) (fun _ _ _ _ _ _ us hl => match us, hl with | [_, _], _ => rfl) fun f cd A outer s H E F m good => ⟨t__law_lowest, simSs_cons (simS_par 2 3 good.calm good.nd (cAbs t.abs (simA_cons (sv 0) simA_nil)) (cAbs t.abs (simA_cons (sv 1) simA_nil)))
 (simSs_cons (simS_while own_cx (tGt good (sv 3) (simE_int))
 (simSs_one (simS_par 2 3 good.calm good.nd (sv 3) (sMod (cInt t.int (simA_cons (sv 2) simA_nil)) (sv 3)))))
 (simSs_cons (simS_set 4 good.nd (simE_if (tGt good (sv 1) (simE_int)) (simE_int) (simE_neg (simE_int))))
 (simSs_one (simS_ret (simE_tup (simA_cons (sFdvU (sMul (sv 4) (sv 0)) (sv 2)) (simA_cons (sFdvU (sMul (sv 4) (sv 1)) (sv 2)) simA_nil))))))), fun ds cs P Ex hd hb hp => ?_⟩
  obtain ⟨a, b, rfl, h0, hbig, q⟩ := hp
  have gp := gcd_pos (a := a) h0
  have gl := gcd_le (a := a) h0
  show sSeq (sWhile _ _) _ _ [some (.int a), some (.int b), some (.int (if a < 0 then -a else a)), some (.int (if b < 0 then -b else b)), none] cs _
  rw [abs_nat, abs_nat]
  refine sWhile_of (ι := Nat) (fun i sl cs' => cs' = cs ∧ ∃ x : Nat, sl = [some (.int a), some (.int b), some (.int (x : Nat)), some (.int (i : Nat)), none] ∧ Nat.gcd x i = Int.gcd a b) id ?_ (i := b.natAbs) ⟨rfl, a.natAbs, rfl, rfl⟩
  rintro i sl cs' ⟨rfl, x, rfl, hg⟩ W hW
  by_cases hi : i = 0
  · refine iftF (by simp [hi]) ?_
    subst hi
    rw [Nat.gcd_zero_right] at hg
    unfold lowD at q
    subst hg
    by_cases hpos : 0 < b
    · rw [if_pos hpos] at q
      refine iftT (by simpa using hpos) ⟨mulC (by decide), f_pos ⟨gp, log_small (by omega)⟩ ⟨mulC (by decide), f_pos ⟨gp, log_small (by omega)⟩ ⟨two_le, ?_⟩⟩⟩
      rw [Int.one_mul, Int.one_mul]
      exact ret_here q
    · rw [if_neg hpos] at q
      refine iftF (by simpa using hpos) ⟨mulC (by decide), f_pos ⟨gp, log_small (by omega)⟩ ⟨mulC (by decide), f_pos ⟨gp, log_small (by omega)⟩ ⟨two_le, ?_⟩⟩⟩
      rw [show (-1 : Int) * a = -a by omega, show (-1 : Int) * b = -b by omega]
      exact ret_here q
  · refine iftT (by simp; omega) ⟨by omega, ?_⟩
    refine hW (x % i) _ _ (Nat.mod_lt _ (Nat.pos_of_ne_zero hi)) ⟨rfl, i, rfl, ?_⟩
    rw [← hg, Nat.gcd_comm x i, Nat.gcd_rec i x, Nat.gcd_comm]
end K01


namespace K01
open PySem PySem.Spec PyProof.Rows L2 Sim
open Kit0

def p__law_drawn_number : PD := fun ds cs P Ex => ∃ dk ck : Nat, ds = [.loc dk] ∧ DeckAt dk ck cs ∧ ∀ (i : Int) (cs' : CsL), -MM < i → i < MM → DeckAt dk ck cs' → SameBut dk ck cs cs' → P (.int i) cs'

def t__law_drawn_number : TSD := sSeq (sSet 1 (dCall p__law_draw (aCons (dVar 0) (aCons (dC (.int 10)) aNil))))
 (sSeq (sSet 2 (dIf (dTest (dBin (rEqvE false) (dVar 1) (dC (.int 0)))) (dCall p__law_draw (aCons (dVar 0) (aCons (dBin rPow (dC (.int 10)) (dC (.int 12))) aNil))) (dIf (dTest (dBin rLt (dVar 1) (dC (.int 3)))) (dCall p__law_pick (aCons (dVar 0) (aCons (dLst (aCons (dC (.int 0)) (aCons (dC (.int 1)) (aCons (dC (.int 2)) (aCons (dC (.int 999999999999)) (aCons (dBin rPow (dC (.int 10)) (dC (.int 11))) (aCons (dC (.int 6)) (aCons (dC (.int 720720)) aNil)))))))) aNil))) (dCall p__law_draw (aCons (dVar 0) (aCons (dC (.int 60)) aNil))))))
 (sRet (dIf (dTest (dBin (rEqvE false) (dCall p__law_draw (aCons (dVar 0) (aCons (dC (.int 2)) aNil))) (dC (.int 0)))) (dVar 2) (dNeg (dVar 2)))))
theorem sc__law_drawn_number : FnScope ["deck", "way", "found"] ["deck"] (defScope s__law_drawn_number) := ⟨rfl, rfl, rfl, by decide +kernel, rfl, by decide +kernel, by decide +kernel⟩
theorem ok__law_drawn_number {G : Gx} (t : Mg G.mg) (hF : Has G "_law_drawn_number" s__law_drawn_number) (h__law_draw : DefOk G 1 "_law_draw" "_law_draw" s__law_draw ["deck", "many"] p__law_draw) (h__law_pick : DefOk G 2 "_law_pick" "_law_pick" s__law_pick ["deck", "some"] p__law_pick) : DefOk G 3 "_law_drawn_number" "_law_drawn_number" s__law_drawn_number ["deck"] p__law_drawn_number := by
  refine def_ok hF sc__law_drawn_number (fun ds cs P Ex h => by obtain ⟨_, _, rfl, _⟩ := h; rfl) (fun _ _ _ _ _ _ us hl => match us, hl with | [_], _ => rfl) fun f cd A outer s H E F m good => ⟨t__law_drawn_number, simSs_cons (simS_set 1 good.nd (simE_call good h__law_draw (simA_cons (sv 0) (simA_cons (simE_int) simA_nil))))
 (simSs_cons (simS_set 2 good.nd (simE_if (tEqE good (sv 1) (simE_int)) (simE_call good h__law_draw (simA_cons (sv 0) (simA_cons (sPow (simE_int) (simE_int)) simA_nil))) (simE_if (tLt good (sv 1) (simE_int)) (simE_call good h__law_pick (simA_cons (sv 0) (simA_cons (simE_lst (simA_cons (simE_int) (simA_cons (simE_int) (simA_cons (simE_int) (simA_cons (simE_int) (simA_cons (sPow (simE_int) (simE_int)) (simA_cons (simE_int) (simA_cons (simE_int) simA_nil)))))))) simA_nil))) (simE_call good h__law_draw (simA_cons (sv 0) (simA_cons (simE_int) simA_nil))))))
 (simSs_one (simS_ret (simE_if (tEqE good (simE_call good h__law_draw (simA_cons (sv 0) (simA_cons (simE_int) simA_nil))) (simE_int)) (sv 2) (simE_neg (sv 2)))))), fun ds cs P Ex hd hb hp => ?_⟩
  obtain ⟨dk, ck, rfl, A0, k⟩ := hp
  refine ⟨dk, ck, 10, rfl, A0, by decide, by decide, fun way cs1 w0 w1 A1 S1 => ?_⟩
  have last : ∀ (found : Int) (cs2 : CsL), -MM < found → found < MM → DeckAt dk ck cs2 → Ext dk ck cs cs2 →
      sRet (dIf (dTest (dBin (rEqvE false) (dCall p__law_draw (aCons (dVar 0) (aCons (dC (.int 2)) aNil))) (dC (.int 0)))) (dVar 2) (dNeg (dVar 2))) (ExD G.K G.T cs.length Ex) [some (.loc dk), some (.int way), some (.int found)] cs2 { nx := fun _ cs' => RetD G.K G.T cs.length P .non cs', rt := RetD G.K G.T cs.length P } := by
    intro found cs2 f0 f1 A2 E2
    refine ⟨dk, ck, 2, rfl, A2, by decide, by decide, fun b cs3 _ _ A3 S3 => e_eqI ?_⟩
    refine ift (fun _ => ?_) (fun _ => ?_)
    · exact ret_int hb A0 A3 (E2.trans S3.ext) fun cs4 A4 S4 => k found cs4 f0 f1 A4 S4
    · exact ret_int hb A0 A3 (E2.trans S3.ext) fun cs4 A4 S4 => k (-found) cs4 (by omega) (by omega) A4 S4
  refine e_eqI (ift (fun _ => ?_) (fun _ => ?_))
  · refine ⟨⟨by decide, by decide, by decide⟩, dk, ck, _, rfl, A1, by decide, by decide +kernel, fun r cs2 r0 r1 A2 S2 => ?_⟩
    have r1' : r < MM := r1
    exact last r cs2 (by have := MMv; omega) r1' A2 (S1.ext.trans S2.ext)
  · refine ift (fun _ => ?_) (fun _ => ?_)
    · refine ⟨⟨by decide, by decide, by decide⟩, by decide +kernel, dk, ck, _, _, rfl, A1.app _, .loc _ _ ?_ ?_ (by simp; rfl), by simp, by simp, fun x cs2 hx A2 S2 => ?_⟩
      · have := A1.lt; omega
      · have := A1.lt; omega
      · have hx' : ∃ i : Int, x = .int i ∧ -MM < i ∧ i < MM := by
          simp only [List.mem_cons, List.not_mem_nil, or_false] at hx
          rcases hx with e | e | e | e | e | e | e <;> exact ⟨_, e, by decide, by decide⟩
        obtain ⟨i, rfl, i0, i1⟩ := hx'
        exact last i cs2 i0 i1 A2 ((S1.ext.app _).trans S2.ext)
    · refine ⟨dk, ck, 60, rfl, A1, by decide, by decide, fun r cs2 r0 r1 A2 S2 => ?_⟩
      exact last r cs2 (by have := MMv; omega) (by have := MMv; omega) A2 (S1.ext.trans S2.ext)
end K01


namespace K01
open PySem PySem.Spec PyProof.Rows L2 Sim
open Kit0

theorem ls (n : Nat) (h : n ≤ 1000 := by decide) : n ≤ sizeLine := by rw [sizeLine_eq]; omega
theorem get_prev {cs : CsL} {b c : Cell} : (cs ++ [b] ++ [c])[cs.length]? = some b := by simp
theorem add_loc {m n : Nat} {xs ys : List D} {cs : CsL} {Q : DK} (h1 : lstOf (.loc m) cs = some xs) (h2 : lstOf (.loc n) cs = some ys) (hl : xs.length + ys.length ≤ sizeLine) (q : Q (.loc cs.length) (cs ++ [.lst (xs ++ ys)])) : Sim.rAdd (.loc m) (.loc n) cs Q := by
  simp only [Sim.rAdd, h1, h2]
  exact ⟨hl, q⟩
def p__law_fraction : PD := fun ds cs P Ex => ∃ dk ck : Nat, ds = [.loc dk] ∧ DeckAt dk ck cs ∧ ∀ (a b : Int) (cs' : CsL), fracB (.tup [.int a, .int b]) = true → DeckAt dk ck cs' → SameBut dk ck cs cs' → P (.tup [.int a, .int b]) cs'
theorem low_frac {a b : Int} (a0 : -MM < a) (a1 : a < MM) (b0 : 0 < b) (b1 : b < MM) : lowD a b = .tup [.int (a / Int.gcd a b), .int (b / Int.gcd a b)] ∧ fracB (.tup [.int (a / Int.gcd a b), .int (b / Int.gcd a b)]) = true := by
  have h0 : b ≠ 0 := by omega
  have gp := gcd_pos (a := a) h0
  have gp' : 0 < Int.gcd a b := by omega
  refine ⟨by unfold lowD; rw [if_pos b0], ?_⟩
  have e1 := Int.natAbs_ediv_le_natAbs a (Int.gcd a b)
  have e2 := Int.natAbs_ediv_le_natAbs b (Int.gcd a b)
  have e3 : 0 < b / (Int.gcd a b : Int) := Int.ediv_pos_of_pos_of_dvd b0 (by omega) (gdvd_r a b)
  have e4 := Int.gcd_ediv_gcd_ediv_gcd gp'
  simp only [fracB, shortB, Bool.and_eq_true, decide_eq_true_eq]
  refine ⟨⟨by omega, by omega⟩, ⟨by omega, by omega⟩, by omega, e4⟩

def t__law_fraction : TSD := sSeq (sSet 1 (dCallB rAbs (aCons (dCall p__law_drawn_number (aCons (dVar 0) aNil)) aNil)))
 (sRet (dCall p__law_lowest (aCons (dCall p__law_drawn_number (aCons (dVar 0) aNil)) (aCons (dCallB rMax2 (aCons (dC (.int 1)) (aCons (dVar 1) aNil))) aNil))))
theorem sc__law_fraction : FnScope ["deck", "bottom"] ["deck"] (defScope s__law_fraction) := ⟨rfl, rfl, rfl, by decide +kernel, rfl, by decide +kernel, by decide +kernel⟩
theorem ok__law_fraction {G : Gx} (t : Mg G.mg) (hF : Has G "_law_fraction" s__law_fraction) (h__law_lowest : DefOk G 1 "_law_lowest" "_law_lowest" s__law_lowest ["top", "bottom"] p__law_lowest) (h__law_drawn_number : DefOk G 3 "_law_drawn_number" "_law_drawn_number" s__law_drawn_number ["deck"] p__law_drawn_number) : DefOk G 4 "_law_fraction" "_law_fraction" s__law_fraction ["deck"] p__law_fraction := by
  refine def_ok hF sc__law_fraction (fun ds cs P Ex h => by obtain ⟨_, _, rfl, _⟩ := h; rfl) (fun _ _ _ _ _ _ us hl => match us, hl with | [_], _ => rfl) fun f cd A outer s H E F m good => ⟨t__law_fraction, simSs_cons (simS_set 1 good.nd (cAbs t.abs (simA_cons (simE_call good h__law_drawn_number (simA_cons (sv 0) simA_nil)) simA_nil)))
 (simSs_one (simS_ret (simE_call good h__law_lowest (simA_cons (simE_call good h__law_drawn_number (simA_cons (sv 0) simA_nil)) (simA_cons (cMax2 good t.max (simA_cons (simE_int) (simA_cons (sv 1) simA_nil))) simA_nil))))), fun ds cs P Ex hd hb hp => ?_⟩
  obtain ⟨dk, ck, rfl, A0, k⟩ := hp
  refine ⟨dk, ck, rfl, A0, fun i cs1 i0 i1 A1 S1 => ⟨dk, ck, rfl, A1, fun j cs2 j0 j1 A2 S2 => ?_⟩⟩
  show p__law_lowest [.int j, .int (if (if i < 0 then -i else i) > 1 then (if i < 0 then -i else i) else 1)] cs2 (RetD G.K G.T cs.length P) (ExD G.K G.T cs.length Ex)
  generalize hm : (if (if i < 0 then -i else i) > 1 then (if i < 0 then -i else i) else 1) = m
  have m0 : 0 < m := by rw [← hm]; split <;> omega
  have m1 : m < MM := by
    have := MMv
    rw [← hm]
    split
    · split <;> omega
    · omega
  obtain ⟨e1, e2⟩ := low_frac j0 j1 m0 m1
  refine ⟨j, m, rfl, by omega, ?_, ?_⟩
  · have := MMv
    omega
  · rw [e1]
    exact ret_ext 0 hb A0 A2 (S1.ext.trans S2.ext) (froz_bel 0 _ bel_two) bel_two fun cs3 A3 S3 => k _ _ cs3 e2 A3 S3

/-- no numbers -/
def NN : List D := [.non, .bl true, .bl false, .str "1", .tup [.int 1], .lst [.int 2], .int 1000000000000, .int (-1000000000000), .int 1000000000000000000000000000000000000000, .dct [] [], .tup []]
def p__law_no_number : PD := fun ds cs P Ex => ∃ dk ck : Nat, ds = [.loc dk] ∧ DeckAt dk ck cs ∧ ∀ (x : D) (cs' : CsL), x ∈ NN → DeckAt dk ck cs' → SameBut dk ck cs cs' → P x cs'

def t__law_no_number : TSD := sRet (dCall p__law_pick (aCons (dVar 0) (aCons (dLst (aCons (dC (.non)) (aCons (dC (.bl true)) (aCons (dC (.bl false)) (aCons (dC (.str "1")) (aCons (dTup (aCons (dC (.int 1)) aNil)) (aCons (dLst (aCons (dC (.int 2)) aNil)) (aCons (dBin rPow (dC (.int 10)) (dC (.int 12))) (aCons (dNeg (dBin rPow (dC (.int 10)) (dC (.int 12)))) (aCons (dBin rPow (dC (.int 10)) (dC (.int 39))) (aCons (dDNew) (aCons (dTup aNil) aNil)))))))))))) aNil)))
theorem sc__law_no_number : FnScope ["deck"] ["deck"] (defScope s__law_no_number) := ⟨rfl, rfl, rfl, by decide +kernel, rfl, by decide +kernel, by decide +kernel⟩
theorem ok__law_no_number {G : Gx} (t : Mg G.mg) (hF : Has G "_law_no_number" s__law_no_number) (h__law_pick : DefOk G 2 "_law_pick" "_law_pick" s__law_pick ["deck", "some"] p__law_pick) : DefOk G 3 "_law_no_number" "_law_no_number" s__law_no_number ["deck"] p__law_no_number := by
  refine def_ok hF sc__law_no_number (fun ds cs P Ex h => by obtain ⟨_, _, rfl, _⟩ := h; rfl) (fun _ _ _ _ _ _ us hl => match us, hl with | [_], _ => rfl) fun f cd A outer s H E F m good => ⟨t__law_no_number, simSs_one (simS_ret (simE_call good h__law_pick (simA_cons (sv 0) (simA_cons (simE_lst (simA_cons (simE_non) (simA_cons (simE_bl) (simA_cons (simE_bl) (simA_cons (simE_str) (simA_cons (simE_tup (simA_cons (simE_int) simA_nil)) (simA_cons (simE_lst (simA_cons (simE_int) simA_nil)) (simA_cons (sPow (simE_int) (simE_int)) (simA_cons (simE_neg (sPow (simE_int) (simE_int))) (simA_cons (sPow (simE_int) (simE_int)) (simA_cons (simE_dnew) (simA_cons (simE_tup simA_nil) simA_nil)))))))))))) simA_nil)))), fun ds cs P Ex hd hb hp => ?_⟩
  obtain ⟨dk, ck, rfl, A0, k⟩ := hp
  obtain ⟨l1, l2⟩ := A0.lt
  refine ⟨ls 1, ls 1, ⟨by decide, by decide, by decide⟩, ⟨by decide, by decide, by decide⟩, ⟨by decide, by decide, by decide⟩, Nat.zero_le _, ls 11, ?_⟩
  refine ⟨dk, ck, _, _, rfl, ?_, .loc _ _ ?_ ?_ (List.getElem?_concat_length), by simp, by simp, fun x cs2 hx A2 S2 => ?_⟩
  · exact ((A0.app _).app _).app _
  · simp only [List.length_append, List.length_cons, List.length_nil]; omega
  · simp only [List.length_append, List.length_cons, List.length_nil]; omega
  have E2 : Ext dk ck cs cs2 := ((((Ext.refl (dk := dk) (ck := ck) (cs := cs)).app _).app _).app _).trans S2.ext
  have c0 : cs2[cs.length]? = some (.lst [.int 2]) := by
    rw [S2.2 _ (by omega) (by omega)]
    simp
  have c1 : cs2[(cs ++ [Cell.lst [.int 2]]).length]? = some (.dic [] []) := by
    rw [S2.2 _ (by rw [List.length_append]; omega) (by rw [List.length_append]; omega)]
    simp
  have fin : ∀ {y : D}, y ∈ NN → Bel cs.length y → froz cs.length [] cs2 2 x = y → RetD G.K G.T cs.length P x cs2 := fun {y} hy hb' e => ret_ext 2 hb A0 A2 E2 e hb' fun cs3 A3 S3 => k y cs3 hy A3 S3
  have nl : ¬ (cs ++ [Cell.lst [.int 2]]).length < cs.length := by simp
  simp only [List.mem_cons, List.not_mem_nil, or_false] at hx
  rcases hx with e | e | e | e | e | e | e | e | e | e | e <;> subst e
  · exact fin (y := .non) (by simp [NN]) (by simp [Bel]) (by simp [froz])
  · exact fin (y := .bl true) (by simp [NN]) (by simp [Bel]) (by simp [froz])
  · exact fin (y := .bl false) (by simp [NN]) (by simp [Bel]) (by simp [froz])
  · exact fin (y := .str "1") (by simp [NN]) (by simp [Bel]) (by simp [froz])
  · exact fin (y := .tup [.int 1]) (by simp [NN]) (by simp [Bel, BelL]) (by simp [froz])
  · exact fin (y := .lst [.int 2]) (by simp [NN]) (by simp [Bel, BelL]) (by simp [froz, pos?, c0])
  · exact fin (y := .int 1000000000000) (by simp [NN]) (by simp [Bel]) (by simp [froz])
  · exact fin (y := .int (-1000000000000)) (by simp [NN]) (by simp [Bel]) (by simp [froz])
  · exact fin (y := .int 1000000000000000000000000000000000000000) (by simp [NN]) (by simp [Bel]) (by simp [froz])
  · exact fin (y := .dct [] []) (by simp [NN]) (by simp [Bel, BelL]) (by simp only [froz, pos?, c1, if_neg nl]; rfl)
  · exact fin (y := .tup []) (by simp [NN]) (by simp [Bel, BelL]) (by simp [froz])

/-- no fractions, made of one -/
def NF (a b : Int) : List D := [.non, .int 1, .tup [.int a, .int 0], .tup [.int a, .int (-b)], .lst [.int a, .int b], .tup [.int a], .tup [.int a, .int b, .int 1], .tup [.int (2 * a + 2), .int (2 * b)], .tup [.int 0, .int 2], .tup [.str (toString a), .int b], .str "1/2",
  .tup [.int 1000000000000, .int 1], .tup [.int 1, .int 1000000000000], .tup [.int (-1000000000000), .int 1], .tup [.bl true, .int 1], .tup [.int 1, .bl true], .tup [.int a, .non], .tup [.tup [.int 1, .int 2], .int 1]]
def p__law_no_fraction : PD := fun ds cs P Ex => ∃ dk ck : Nat, ds = [.loc dk] ∧ DeckAt dk ck cs ∧ ∀ (a b : Int) (x : D) (cs' : CsL), fracB (.tup [.int a, .int b]) = true → x ∈ NF a b → DeckAt dk ck cs' → SameBut dk ck cs cs' → P x cs'
theorem log_str {a : Int} (h0 : -MM < a) (h1 : a < MM) : a.natAbs.log2 < 1920 := by
  have := MMv
  by_cases h : a.natAbs = 0
  · rw [h]; decide
  · exact (Nat.log2_lt h).mpr (Nat.lt_of_lt_of_le (show a.natAbs < 2 ^ 40 by omega) (Nat.pow_le_pow_right (by decide) (by decide)))

def t__law_no_fraction : TSD := sSeq (sAsg (dCall p__law_fraction (aCons (dVar 0) aNil)) (tgTup 2 (tgCons (tgName 1) (tgCons (tgName 2) tgNil))))
 (sSeq (sSet 3 (dLst (aCons (dC (.non)) (aCons (dC (.int 1)) (aCons (dTup (aCons (dVar 1) (aCons (dC (.int 0)) aNil))) (aCons (dTup (aCons (dVar 1) (aCons (dNeg (dVar 2)) aNil))) (aCons (dLst (aCons (dVar 1) (aCons (dVar 2) aNil))) (aCons (dTup (aCons (dVar 1) aNil)) (aCons (dTup (aCons (dVar 1) (aCons (dVar 2) (aCons (dC (.int 1)) aNil)))) (aCons (dTup (aCons (dBin rAdd (dBin rMulD (dC (.int 2)) (dVar 1)) (dC (.int 2))) (aCons (dBin rMulD (dC (.int 2)) (dVar 2)) aNil))) (aCons (dTup (aCons (dC (.int 0)) (aCons (dC (.int 2)) aNil))) (aCons (dTup (aCons (dCallB rStr1 (aCons (dVar 1) aNil)) (aCons (dVar 2) aNil))) (aCons (dC (.str "1/2")) aNil)))))))))))))
 (sSeq (sSet 3 (dBin rAdd (dVar 3) (dLst (aCons (dTup (aCons (dBin rPow (dC (.int 10)) (dC (.int 12))) (aCons (dC (.int 1)) aNil))) (aCons (dTup (aCons (dC (.int 1)) (aCons (dBin rPow (dC (.int 10)) (dC (.int 12))) aNil))) (aCons (dTup (aCons (dNeg (dBin rPow (dC (.int 10)) (dC (.int 12)))) (aCons (dC (.int 1)) aNil))) (aCons (dTup (aCons (dC (.bl true)) (aCons (dC (.int 1)) aNil))) (aCons (dTup (aCons (dC (.int 1)) (aCons (dC (.bl true)) aNil))) (aCons (dTup (aCons (dVar 1) (aCons (dC (.non)) aNil))) (aCons (dTup (aCons (dTup (aCons (dC (.int 1)) (aCons (dC (.int 2)) aNil))) (aCons (dC (.int 1)) aNil))) aNil))))))))))
 (sRet (dCall p__law_pick (aCons (dVar 0) (aCons (dVar 3) aNil))))))
theorem sc__law_no_fraction : FnScope ["deck", "top", "bottom", "some"] ["deck"] (defScope s__law_no_fraction) := ⟨rfl, rfl, rfl, by decide +kernel, rfl, by decide +kernel, by decide +kernel⟩
theorem ok__law_no_fraction {G : Gx} (t : Mg G.mg) (hF : Has G "_law_no_fraction" s__law_no_fraction) (h__law_fraction : DefOk G 4 "_law_fraction" "_law_fraction" s__law_fraction ["deck"] p__law_fraction) (h__law_pick : DefOk G 2 "_law_pick" "_law_pick" s__law_pick ["deck", "some"] p__law_pick) : DefOk G 5 "_law_no_fraction" "_law_no_fraction" s__law_no_fraction ["deck"] p__law_no_fraction := by
  refine def_ok hF sc__law_no_fraction (fun ds cs P Ex h => by obtain ⟨_, _, rfl, _⟩ := h; rfl) (fun _ _ _ _ _ _ us hl => match us, hl with | [_], _ => rfl) fun f cd A outer s H E F m good => ⟨t__law_no_fraction, simSs_cons (simS_asg (simE_call good h__law_fraction (simA_cons (sv 0) simA_nil)) (simG_tup good.calm (simGs_cons (simG_name 1 (pg_name good.nd rfl (by first | exact .inl rfl | exact .inr rfl))) (simGs_cons (simG_name 2 (pg_name good.nd rfl (by first | exact .inl rfl | exact .inr rfl))) simGs_nil))))
 (simSs_cons (simS_set 3 good.nd (simE_lst (simA_cons (simE_non) (simA_cons (simE_int) (simA_cons (simE_tup (simA_cons (sv 1) (simA_cons (simE_int) simA_nil))) (simA_cons (simE_tup (simA_cons (sv 1) (simA_cons (simE_neg (sv 2)) simA_nil))) (simA_cons (simE_lst (simA_cons (sv 1) (simA_cons (sv 2) simA_nil))) (simA_cons (simE_tup (simA_cons (sv 1) simA_nil)) (simA_cons (simE_tup (simA_cons (sv 1) (simA_cons (sv 2) (simA_cons (simE_int) simA_nil)))) (simA_cons (simE_tup (simA_cons (sAdd (sMul (simE_int) (sv 1)) (simE_int)) (simA_cons (sMul (simE_int) (sv 2)) simA_nil))) (simA_cons (simE_tup (simA_cons (simE_int) (simA_cons (simE_int) simA_nil))) (simA_cons (simE_tup (simA_cons (cStr t.str (simA_cons (sv 1) simA_nil)) (simA_cons (sv 2) simA_nil))) (simA_cons (simE_str) simA_nil)))))))))))))
 (simSs_cons (simS_set 3 good.nd (sAdd (sv 3) (simE_lst (simA_cons (simE_tup (simA_cons (sPow (simE_int) (simE_int)) (simA_cons (simE_int) simA_nil))) (simA_cons (simE_tup (simA_cons (simE_int) (simA_cons (sPow (simE_int) (simE_int)) simA_nil))) (simA_cons (simE_tup (simA_cons (simE_neg (sPow (simE_int) (simE_int))) (simA_cons (simE_int) simA_nil))) (simA_cons (simE_tup (simA_cons (simE_bl) (simA_cons (simE_int) simA_nil))) (simA_cons (simE_tup (simA_cons (simE_int) (simA_cons (simE_bl) simA_nil))) (simA_cons (simE_tup (simA_cons (sv 1) (simA_cons (simE_non) simA_nil))) (simA_cons (simE_tup (simA_cons (simE_tup (simA_cons (simE_int) (simA_cons (simE_int) simA_nil))) (simA_cons (simE_int) simA_nil))) simA_nil))))))))))
 (simSs_one (simS_ret (simE_call good h__law_pick (simA_cons (sv 0) (simA_cons (sv 3) simA_nil))))))), fun ds cs P Ex hd hb hp => ?_⟩
  obtain ⟨dk, ck, rfl, A0, k⟩ := hp
  obtain ⟨l1, l2⟩ := A0.lt
  refine ⟨dk, ck, rfl, A0, fun a b cs1 hf A1 S1 => ⟨rfl, ?_⟩⟩
  obtain ⟨a', b', e, a0, a1, b0, b1, _⟩ := frac_is hf
  cases e
  refine ⟨ls 2, ls 2, ls 2, ls 1, ls 3, mulC (by decide), mulC (by decide), ls 2, ls 2, ⟨log_str a0 a1, ls 2, ls 11, ?_⟩⟩
  refine ⟨⟨by decide, by decide, by decide⟩, ls 2, ⟨by decide, by decide, by decide⟩, ls 2, ⟨by decide, by decide, by decide⟩, ls 2, ls 2, ls 2, ls 2, ls 2, ls 2, ls 7, ?_⟩
  refine add_loc (lst_cell get_prev) lst_new (ls 18) ?_
  refine ⟨dk, ck, _, _, rfl, ?_, .loc _ _ ?_ ?_ (List.getElem?_concat_length), by simp, by simp, fun x cs2 hx A2 S2 => ?_⟩
  · exact (((A1.app _).app _).app _).app _
  · have := A1.lt; simp only [List.length_append, List.length_cons, List.length_nil]; omega
  · have := A1.lt; simp only [List.length_append, List.length_cons, List.length_nil]; omega
  have E2 : Ext dk ck cs cs2 := ((((S1.ext.app _).app _).app _).app _).trans S2.ext
  have m1 := A1.lt
  have c0 : cs2[cs1.length]? = some (.lst [.int a, .int b]) := by
    rw [S2.2 _ (by omega) (by omega)]
    simp
  have el : cs1.length = cs.length := S1.1
  rw [el] at c0
  have fin : ∀ {y : D}, y ∈ NF a b → Bel cs.length y → froz cs.length [] cs2 3 x = y → RetD G.K G.T cs.length P x cs2 := fun {y} hy hb' e => ret_ext 3 hb A0 A2 E2 e hb' fun cs3 A3 S3 => k a b y cs3 hf hy A3 S3
  rw [el] at hx
  simp only [List.mem_append, List.mem_cons, List.not_mem_nil, or_false] at hx
  rcases hx with (e | e | e | e | e | e | e | e | e | e | e) | (e | e | e | e | e | e | e) <;> subst e
  · exact fin (y := .non) (by simp [NF]) (by simp [Bel]) (by simp [froz])
  · exact fin (y := .int 1) (by simp [NF]) (by simp [Bel]) (by simp [froz])
  · exact fin (y := .tup [.int a, .int 0]) (by simp [NF]) (by simp [Bel, BelL]) (by simp [froz])
  · exact fin (y := .tup [.int a, .int (-b)]) (by simp [NF]) (by simp [Bel, BelL]) (by simp [froz])
  · exact fin (y := .lst [.int a, .int b]) (by simp [NF]) (by simp [Bel, BelL]) (by simp [froz, pos?, c0])
  · exact fin (y := .tup [.int a]) (by simp [NF]) (by simp [Bel, BelL]) (by simp [froz])
  · exact fin (y := .tup [.int a, .int b, .int 1]) (by simp [NF]) (by simp [Bel, BelL]) (by simp [froz])
  · exact fin (y := .tup [.int (2 * a + 2), .int (2 * b)]) (by simp [NF]) (by simp [Bel, BelL]) (by simp [froz])
  · exact fin (y := .tup [.int 0, .int 2]) (by simp [NF]) (by simp [Bel, BelL]) (by simp [froz])
  · exact fin (y := .tup [.str (toString a), .int b]) (by simp [NF]) (by simp [Bel, BelL]) (by simp [froz])
  · exact fin (y := .str "1/2") (by simp [NF]) (by simp [Bel]) (by simp [froz])
  · exact fin (y := .tup [.int 1000000000000, .int 1]) (by simp [NF]) (by simp [Bel, BelL]) (by simp [froz])
  · exact fin (y := .tup [.int 1, .int 1000000000000]) (by simp [NF]) (by simp [Bel, BelL]) (by simp [froz])
  · exact fin (y := .tup [.int (-1000000000000), .int 1]) (by simp [NF]) (by simp [Bel, BelL]) (by simp [froz])
  · exact fin (y := .tup [.bl true, .int 1]) (by simp [NF]) (by simp [Bel, BelL]) (by simp [froz])
  · exact fin (y := .tup [.int 1, .bl true]) (by simp [NF]) (by simp [Bel, BelL]) (by simp [froz])
  · exact fin (y := .tup [.int a, .non]) (by simp [NF]) (by simp [Bel, BelL]) (by simp [froz])
  · exact fin (y := .tup [.tup [.int 1, .int 2], .int 1]) (by simp [NF]) (by simp [Bel, BelL]) (by simp [froz])
end K01


namespace K01
open PySem PySem.Spec PyProof.Rows L2 Sim
open Kit0

theorem frac_ok {a b : Int} {cs : CsL} : FracOk (.tup [.int a, .int b]) cs := ⟨⟨"tuple", rfl⟩, fun xs e => by
  cases e
  refine ⟨by show 2 ≤ 1000; decide, fun x hx => ?_⟩
  simp only [List.mem_cons, List.not_mem_nil, or_false] at hx
  rcases hx with e | e <;> subst e <;> exact ⟨"int", rfl⟩⟩
theorem two_ok {C : Addr} {a b c d : Int} {cs : CsL} {Ex : ExW} {P : Int → Int → Int → Int → Prop} (h1 : fracB (.tup [.int a, .int b]) = true) (h2 : fracB (.tup [.int c, .int d]) = true) (q : P a b c d) : Two C (.tup [.int a, .int b]) (.tup [.int c, .int d]) cs Ex P :=
  ⟨frac_ok, frac_ok, fun h => (by rw [h1] at h; cases h), fun _ h => (by rw [h2] at h; cases h), fun _ _ _ _ e1 e2 _ _ => by cases e1; cases e2; exact q⟩
theorem frac_facts {a b : Int} (h : fracB (.tup [.int a, .int b]) = true) : -MM < a ∧ a < MM ∧ 0 < b ∧ b < MM ∧ Int.gcd a b = 1 := by
  obtain ⟨a', b', e, r⟩ := frac_is h
  cases e
  exact r
theorem frac_of {a b : Int} (a0 : -MM < a) (a1 : a < MM) (b0 : 0 < b) (b1 : b < MM) (hg : Int.gcd a b = 1) : fracB (.tup [.int a, .int b]) = true := by
  simp only [fracB, shortB, Bool.and_eq_true, decide_eq_true_eq]
  exact ⟨⟨a0, a1⟩, ⟨by omega, b1⟩, by omega, hg⟩
theorem lowD_tup (a b : Int) : ∃ p q : Int, lowD a b = .tup [.int p, .int q] := by
  unfold lowD
  split
  · exact ⟨_, _, rfl⟩
  · exact ⟨_, _, rfl⟩
theorem same_low {cs : CsL} (a b : Int) : SameD cs 3 (lowD a b) (lowD a b) := by
  obtain ⟨p, q, e⟩ := lowD_tup a b
  rw [e]
  exact .tup (.cons (.int p) (.cons (.int q) .nil))
theorem same_two {cs : CsL} (a b : Int) : SameD cs 3 (.tup [.int a, .int b]) (.tup [.int a, .int b]) := .tup (.cons (.int a) (.cons (.int b) .nil))
theorem low_one {a b : Int} (b0 : 0 < b) (hg : Int.gcd a b = 1) : lowD a b = .tup [.int a, .int b] := by
  unfold lowD
  rw [if_pos b0, hg]
  simp
theorem low_zero {b : Int} (b0 : 0 < b) : lowD 0 b = .tup [.int 0, .int 1] := by
  unfold lowD
  rw [if_pos b0]
  have e : ((Int.gcd 0 b : Nat) : Int) = b := by rw [Int.gcd_zero_left]; omega
  rw [e, Int.zero_ediv, Int.ediv_self (by omega)]
def sgnI (l r : Int) : Int := if r < l then 1 else if l < r then -1 else 0
theorem cmp_sgn (l r : Int) : cmpI l r = sgnI l r := by
  unfold cmpI sgnI
  by_cases h1 : l < r
  · rw [if_pos h1, if_neg (by omega), if_pos h1]
  · by_cases h2 : r < l
    · rw [if_neg h1, if_pos h2, if_pos h2]
    · rw [if_neg h1, if_neg h2, if_neg h2, if_neg h1]
theorem cmp_sgn' (l r : Int) : cmpI r l = 0 - sgnI l r := by
  unfold cmpI sgnI
  by_cases h1 : l < r
  · rw [if_neg (by omega), if_pos h1, if_neg (by omega), if_pos h1]; rfl
  · by_cases h2 : r < l
    · rw [if_pos h2, if_pos h2]; rfl
    · rw [if_neg h2, if_neg h1, if_neg h2, if_neg h1]; rfl
theorem cmp_self (l : Int) : cmpI l l = 0 := by
  unfold cmpI
  rw [if_neg (by omega), if_neg (by omega)]
def p__law_are_sums_right : PD := fun ds cs P Ex => ∃ a b c d : Int, ds = [.tup [.int a, .int b], .tup [.int c, .int d]] ∧ fracB (.tup [.int a, .int b]) = true ∧ fracB (.tup [.int c, .int d]) = true ∧ P (.bl true) cs

def t__law_are_sums_right (C_BadEffect : Addr) : TSD := sSeq (sAsg (dTup (aCons (dVar 0) (aCons (dVar 1) aNil))) (tgTup 2 (tgCons (tgTup 2 (tgCons (tgName 2) (tgCons (tgName 3) tgNil))) (tgCons (tgTup 2 (tgCons (tgName 4) (tgCons (tgName 5) tgNil))) tgNil))))
 (sSeq (sSet 6 (dIf (dTest (dBin rGt (dBin rMulD (dVar 2) (dVar 5)) (dBin rMulD (dVar 4) (dVar 3)))) (dC (.int 1)) (dIf (dTest (dBin rLt (dBin rMulD (dVar 2) (dVar 5)) (dBin rMulD (dVar 4) (dVar 3)))) (dNeg (dC (.int 1))) (dC (.int 0)))))
 (sSeq (sPar 7 8 (dCall p__law_lowest (aCons (dBin rAdd (dBin rMulD (dVar 2) (dVar 5)) (dBin rMulD (dVar 4) (dVar 3))) (aCons (dBin rMulD (dVar 3) (dVar 5)) aNil))) (dCall p__law_lowest (aCons (dBin rMulD (dVar 2) (dVar 4)) (aCons (dBin rMulD (dVar 3) (dVar 5)) aNil))))
 (sSeq (sSet 9 (dLst (aCons (dCall (p_plus C_BadEffect) (aCons (dVar 0) (aCons (dVar 1) aNil))) (aCons (dCallK 0 2 [1, 0] (p_plus C_BadEffect) aNil (aCons (dVar 0) (aCons (dVar 1) aNil))) (aCons (dCall (p_times C_BadEffect) (aCons (dVar 0) (aCons (dVar 1) aNil))) (aCons (dCallK 0 2 [1, 0] (p_times C_BadEffect) aNil (aCons (dVar 0) (aCons (dVar 1) aNil))) (aCons (dCall (p_compared C_BadEffect) (aCons (dVar 0) (aCons (dVar 1) aNil))) (aCons (dCallK 0 2 [1, 0] (p_compared C_BadEffect) aNil (aCons (dVar 0) (aCons (dVar 1) aNil))) aNil))))))))
 (sSeq (sIf (dNot (dTest (dCall p__law_same (aCons (dVar 9) (aCons (dLst (aCons (dVar 7) (aCons (dVar 7) (aCons (dVar 8) (aCons (dVar 8) (aCons (dVar 6) (aCons (dBin rSub (dC (.int 0)) (dVar 6)) aNil))))))) aNil)))))
 (sRet (dC (.bl false)))
 (sNext))
 (sSeq (sSet 9 (dLst (aCons (dCall (p_plus C_BadEffect) (aCons (dVar 0) (aCons (dTup (aCons (dC (.int 0)) (aCons (dC (.int 1)) aNil))) aNil))) (aCons (dCall (p_times C_BadEffect) (aCons (dVar 0) (aCons (dTup (aCons (dC (.int 1)) (aCons (dC (.int 1)) aNil))) aNil))) (aCons (dCall (p_times C_BadEffect) (aCons (dVar 0) (aCons (dTup (aCons (dC (.int 0)) (aCons (dC (.int 1)) aNil))) aNil))) (aCons (dCall (p_plus C_BadEffect) (aCons (dVar 0) (aCons (dTup (aCons (dBin rSub (dC (.int 0)) (dVar 2)) (aCons (dVar 3) aNil))) aNil))) (aCons (dCall (p_compared C_BadEffect) (aCons (dVar 0) (aCons (dVar 0) aNil))) aNil)))))))
 (sRet (dCall p__law_same (aCons (dVar 9) (aCons (dLst (aCons (dVar 0) (aCons (dVar 0) (aCons (dTup (aCons (dC (.int 0)) (aCons (dC (.int 1)) aNil))) (aCons (dTup (aCons (dC (.int 0)) (aCons (dC (.int 1)) aNil))) (aCons (dC (.int 0)) aNil)))))) aNil)))))))))
def t_sums2 (C_BadEffect : Addr) : TSD := sSeq (sPar 7 8 (dCall p__law_lowest (aCons (dBin rAdd (dBin rMulD (dVar 2) (dVar 5)) (dBin rMulD (dVar 4) (dVar 3))) (aCons (dBin rMulD (dVar 3) (dVar 5)) aNil))) (dCall p__law_lowest (aCons (dBin rMulD (dVar 2) (dVar 4)) (aCons (dBin rMulD (dVar 3) (dVar 5)) aNil))))
 (sSeq (sSet 9 (dLst (aCons (dCall (p_plus C_BadEffect) (aCons (dVar 0) (aCons (dVar 1) aNil))) (aCons (dCallK 0 2 [1, 0] (p_plus C_BadEffect) aNil (aCons (dVar 0) (aCons (dVar 1) aNil))) (aCons (dCall (p_times C_BadEffect) (aCons (dVar 0) (aCons (dVar 1) aNil))) (aCons (dCallK 0 2 [1, 0] (p_times C_BadEffect) aNil (aCons (dVar 0) (aCons (dVar 1) aNil))) (aCons (dCall (p_compared C_BadEffect) (aCons (dVar 0) (aCons (dVar 1) aNil))) (aCons (dCallK 0 2 [1, 0] (p_compared C_BadEffect) aNil (aCons (dVar 0) (aCons (dVar 1) aNil))) aNil))))))))
 (sSeq (sIf (dNot (dTest (dCall p__law_same (aCons (dVar 9) (aCons (dLst (aCons (dVar 7) (aCons (dVar 7) (aCons (dVar 8) (aCons (dVar 8) (aCons (dVar 6) (aCons (dBin rSub (dC (.int 0)) (dVar 6)) aNil))))))) aNil)))))
 (sRet (dC (.bl false)))
 (sNext))
 (sSeq (sSet 9 (dLst (aCons (dCall (p_plus C_BadEffect) (aCons (dVar 0) (aCons (dTup (aCons (dC (.int 0)) (aCons (dC (.int 1)) aNil))) aNil))) (aCons (dCall (p_times C_BadEffect) (aCons (dVar 0) (aCons (dTup (aCons (dC (.int 1)) (aCons (dC (.int 1)) aNil))) aNil))) (aCons (dCall (p_times C_BadEffect) (aCons (dVar 0) (aCons (dTup (aCons (dC (.int 0)) (aCons (dC (.int 1)) aNil))) aNil))) (aCons (dCall (p_plus C_BadEffect) (aCons (dVar 0) (aCons (dTup (aCons (dBin rSub (dC (.int 0)) (dVar 2)) (aCons (dVar 3) aNil))) aNil))) (aCons (dCall (p_compared C_BadEffect) (aCons (dVar 0) (aCons (dVar 0) aNil))) aNil)))))))
 (sRet (dCall p__law_same (aCons (dVar 9) (aCons (dLst (aCons (dVar 0) (aCons (dVar 0) (aCons (dTup (aCons (dC (.int 0)) (aCons (dC (.int 1)) aNil))) (aCons (dTup (aCons (dC (.int 0)) (aCons (dC (.int 1)) aNil))) (aCons (dC (.int 0)) aNil)))))) aNil)))))))
theorem sc__law_are_sums_right : FnScope ["one", "other", "a", "b", "c", "d", "sign", "total", "product", "told"] ["one", "other"] (defScope s__law_are_sums_right) := ⟨rfl, rfl, rfl, by decide +kernel, rfl, by decide +kernel, by decide +kernel⟩
theorem kb_compared_0_other_one {G : Gx} {f : Addr} {fd : FuncData} (F : Fun G.K "compared" "compared" s_compared f fd) : KBn G.K fd ["one", "other"] 0 ["other", "one"] (fun us ws => pick [1, 0] (us ++ ws)) (fun vs zs => pick [1, 0] (vs ++ zs)) :=
  kbn_mk F fun _ _ _ _ _ _ us ws h1 h2 => match us, ws, h1, h2 with | [], [_, _], _, _ => rfl
theorem kb_plus_0_other_one {G : Gx} {f : Addr} {fd : FuncData} (F : Fun G.K "plus" "plus" s_plus f fd) : KBn G.K fd ["one", "other"] 0 ["other", "one"] (fun us ws => pick [1, 0] (us ++ ws)) (fun vs zs => pick [1, 0] (vs ++ zs)) :=
  kbn_mk F fun _ _ _ _ _ _ us ws h1 h2 => match us, ws, h1, h2 with | [], [_, _], _, _ => rfl
theorem kb_times_0_other_one {G : Gx} {f : Addr} {fd : FuncData} (F : Fun G.K "times" "times" s_times f fd) : KBn G.K fd ["one", "other"] 0 ["other", "one"] (fun us ws => pick [1, 0] (us ++ ws)) (fun vs zs => pick [1, 0] (vs ++ zs)) :=
  kbn_mk F fun _ _ _ _ _ _ us ws h1 h2 => match us, ws, h1, h2 with | [], [_, _], _, _ => rfl
theorem ok__law_are_sums_right {G : Gx} (t : Mg G.mg) {C_BadEffect : Addr} (hF : Has G "_law_are_sums_right" s__law_are_sums_right) (h__law_same : DefOk G 1 "_law_same" "_law_same" s__law_same ["told", "due"] p__law_same) (h__law_lowest : DefOk G 1 "_law_lowest" "_law_lowest" s__law_lowest ["top", "bottom"] p__law_lowest) (h_plus : DefOk G 5 "plus" "plus" s_plus ["one", "other"] (p_plus C_BadEffect)) (h_times : DefOk G 5 "times" "times" s_times ["one", "other"] (p_times C_BadEffect)) (h_compared : DefOk G 5 "compared" "compared" s_compared ["one", "other"] (p_compared C_BadEffect)) : DefOk G 6 "_law_are_sums_right" "_law_are_sums_right" s__law_are_sums_right ["one", "other"] p__law_are_sums_right := by
  refine def_ok hF sc__law_are_sums_right (fun ds cs P Ex h => by obtain ⟨_, _, _, _, rfl, _⟩ := h; rfl) (fun _ _ _ _ _ _ us hl => match us, hl with | [_, _], _ => rfl) fun f cd A outer s H E F m good => ⟨t__law_are_sums_right C_BadEffect, simSs_cons (simS_asg (simE_tup (simA_cons (sv 0) (simA_cons (sv 1) simA_nil))) (simG_tup good.calm (simGs_cons (simG_tup good.calm (simGs_cons (simG_name 2 (pg_name good.nd rfl (by first | exact .inl rfl | exact .inr rfl))) (simGs_cons (simG_name 3 (pg_name good.nd rfl (by first | exact .inl rfl | exact .inr rfl))) simGs_nil))) (simGs_cons (simG_tup good.calm (simGs_cons (simG_name 4 (pg_name good.nd rfl (by first | exact .inl rfl | exact .inr rfl))) (simGs_cons (simG_name 5 (pg_name good.nd rfl (by first | exact .inl rfl | exact .inr rfl))) simGs_nil))) simGs_nil))))
 (simSs_cons (simS_set 6 good.nd (simE_if (tGt good (sMul (sv 2) (sv 5)) (sMul (sv 4) (sv 3))) (simE_int) (simE_if (tLt good (sMul (sv 2) (sv 5)) (sMul (sv 4) (sv 3))) (simE_neg (simE_int)) (simE_int))))
 (simSs_cons (simS_par 7 8 good.calm good.nd (simE_call good h__law_lowest (simA_cons (sAdd (sMul (sv 2) (sv 5)) (sMul (sv 4) (sv 3))) (simA_cons (sMul (sv 3) (sv 5)) simA_nil))) (simE_call good h__law_lowest (simA_cons (sMul (sv 2) (sv 4)) (simA_cons (sMul (sv 3) (sv 5)) simA_nil))))
 (simSs_cons (simS_set 9 good.nd (simE_lst (simA_cons (simE_call good h_plus (simA_cons (sv 0) (simA_cons (sv 1) simA_nil))) (simA_cons (simE_callK0 good h_plus (fun _ _ F => kb_plus_0_other_one F) (simK_cons (sv 0) (simK_cons (sv 1) simK_nil))) (simA_cons (simE_call good h_times (simA_cons (sv 0) (simA_cons (sv 1) simA_nil))) (simA_cons (simE_callK0 good h_times (fun _ _ F => kb_times_0_other_one F) (simK_cons (sv 0) (simK_cons (sv 1) simK_nil))) (simA_cons (simE_call good h_compared (simA_cons (sv 0) (simA_cons (sv 1) simA_nil))) (simA_cons (simE_callK0 good h_compared (fun _ _ F => kb_compared_0_other_one F) (simK_cons (sv 0) (simK_cons (sv 1) simK_nil))) simA_nil))))))))
 (simSs_cons (simS_if (simT_not (simT_val (simE_call good h__law_same (simA_cons (sv 9) (simA_cons (simE_lst (simA_cons (sv 7) (simA_cons (sv 7) (simA_cons (sv 8) (simA_cons (sv 8) (simA_cons (sv 6) (simA_cons (sSub (simE_int) (sv 6)) simA_nil))))))) simA_nil)))))
 (simSs_one (simS_ret (simE_bl)))
 (simSs_nil))
 (simSs_cons (simS_set 9 good.nd (simE_lst (simA_cons (simE_call good h_plus (simA_cons (sv 0) (simA_cons (simE_tup (simA_cons (simE_int) (simA_cons (simE_int) simA_nil))) simA_nil))) (simA_cons (simE_call good h_times (simA_cons (sv 0) (simA_cons (simE_tup (simA_cons (simE_int) (simA_cons (simE_int) simA_nil))) simA_nil))) (simA_cons (simE_call good h_times (simA_cons (sv 0) (simA_cons (simE_tup (simA_cons (simE_int) (simA_cons (simE_int) simA_nil))) simA_nil))) (simA_cons (simE_call good h_plus (simA_cons (sv 0) (simA_cons (simE_tup (simA_cons (sSub (simE_int) (sv 2)) (simA_cons (sv 3) simA_nil))) simA_nil))) (simA_cons (simE_call good h_compared (simA_cons (sv 0) (simA_cons (sv 0) simA_nil))) simA_nil)))))))
 (simSs_one (simS_ret (simE_call good h__law_same (simA_cons (sv 9) (simA_cons (simE_lst (simA_cons (sv 0) (simA_cons (sv 0) (simA_cons (simE_tup (simA_cons (simE_int) (simA_cons (simE_int) simA_nil))) (simA_cons (simE_tup (simA_cons (simE_int) (simA_cons (simE_int) simA_nil))) (simA_cons (simE_int) simA_nil)))))) simA_nil)))))))))), fun ds cs P Ex hd hb hp => ?_⟩
  obtain ⟨a, b, c, d, rfl, h1, h2, q⟩ := hp
  obtain ⟨a0, a1, b0, b1, g1⟩ := frac_facts h1
  obtain ⟨c0, c1, d0, d1, g2⟩ := frac_facts h2
  have m := mul_pos_lt b0 b1 d0 d1
  have n10 : (b * d).natAbs < 10 ^ 100 := by omega
  have main : ∀ sg : Int, sg = sgnI (a * d) (c * b) → t_sums2 C_BadEffect (ExD G.K G.T cs.length Ex) [some (.tup [.int a, .int b]), some (.tup [.int c, .int d]), some (.int a), some (.int b), some (.int c), some (.int d), some (.int sg), none, none, none] cs
      { nx := fun _ cs' => RetD G.K G.T cs.length P .non cs', rt := RetD G.K G.T cs.length P } := by
    intro sg hsg
    refine ⟨mulS ⟨d0, d1⟩, mulS ⟨b0, b1⟩, mulS ⟨d0, d1⟩, _, _, rfl, by omega, n10, ?_⟩
    refine ⟨mulS1 ⟨a0, a1⟩, mulS ⟨d0, d1⟩, _, _, rfl, by omega, n10, ?_⟩
    refine ⟨_, _, rfl, two_ok h1 h2 ?_⟩
    refine ⟨rfl, rfl, _, _, rfl, two_ok h2 h1 ?_⟩
    refine ⟨_, _, rfl, two_ok h1 h2 ?_⟩
    refine ⟨rfl, rfl, _, _, rfl, two_ok h2 h1 ?_⟩
    refine ⟨_, _, rfl, two_ok h1 h2 ?_⟩
    refine ⟨rfl, rfl, _, _, rfl, two_ok h2 h1 ?_⟩
    refine ⟨ls 6, ls 6, ?_⟩
    rw [show c * b + a * d = a * d + c * b from Int.add_comm _ _, show d * b = b * d from Int.mul_comm _ _, show c * a = a * c from Int.mul_comm _ _, cmp_sgn (a * d), cmp_sgn' (a * d), ← hsg]
    refine ⟨_, _, 3 + (3 + (3 + (3 + (1 + (1 + 0))))) + 1, rfl, .lst (lst_cell get_prev) lst_new (.cons (same_low _ _) (.cons (same_low _ _) (.cons (same_low _ _) (.cons (same_low _ _) (.cons (.int _) (.cons (.int _) .nil)))))), by decide, iftF rfl ?_⟩
    refine ⟨ls 2, _, _, rfl, two_ok h1 (by decide) ?_⟩
    refine ⟨ls 2, _, _, rfl, two_ok h1 (by decide) ?_⟩
    refine ⟨ls 2, _, _, rfl, two_ok h1 (by decide) ?_⟩
    refine ⟨ls 2, _, _, rfl, two_ok h1 (frac_of (by omega) (by omega) b0 b1 (by rw [Int.zero_sub, Int.neg_gcd]; exact g1)) ?_⟩
    refine ⟨_, _, rfl, two_ok h1 h1 ?_⟩
    refine ⟨ls 5, ls 2, ls 2, ls 5, ?_⟩
    have e1 : lowD (a * 1 + 0 * b) (b * 1) = .tup [.int a, .int b] := by rw [Int.mul_one, Int.zero_mul, Int.add_zero, Int.mul_one]; exact low_one b0 g1
    have e2 : lowD (a * 1) (b * 1) = .tup [.int a, .int b] := by rw [Int.mul_one, Int.mul_one]; exact low_one b0 g1
    have e3 : lowD (a * 0) (b * 1) = .tup [.int 0, .int 1] := by rw [Int.mul_zero, Int.mul_one]; exact low_zero b0
    have e4 : lowD (a * b + (0 - a) * b) (b * b) = .tup [.int 0, .int 1] := by
      rw [Int.zero_sub, Int.neg_mul, Int.add_right_neg]
      exact low_zero (Int.mul_pos b0 b0)
    rw [e1, e2, e3, e4, cmp_self]
    refine ⟨_, _, 3 + (3 + (3 + (3 + (1 + 0)))) + 1, rfl, .lst (lst_cell get_prev) lst_new (.cons (same_two _ _) (.cons (same_two _ _) (.cons (same_two _ _) (.cons (same_two _ _) (.cons (.int _) .nil))))), by decide, ?_⟩
    rw [List.append_assoc, List.append_assoc, List.append_assoc]
    exact ret_same hb bel_bl q
  refine ⟨ls 2, rfl, rfl, rfl, mulS ⟨d0, d1⟩, mulS ⟨b0, b1⟩, ?_⟩
  refine ift (fun h => ?_) (fun h => ⟨mulS ⟨d0, d1⟩, mulS ⟨b0, b1⟩, ift (fun h' => ?_) (fun h' => ?_)⟩)
  · exact main 1 (by unfold sgnI; rw [if_pos (by simpa using h)])
  · exact main (-1) (by unfold sgnI; rw [if_neg (by simpa using h), if_pos (by simpa using h')])
  · exact main 0 (by unfold sgnI; rw [if_neg (by simpa using h), if_neg (by simpa using h')])
end K01


namespace K01
open PySem PySem.Spec PyProof.Rows L2 Sim
open Kit0

theorem get_last {cs : CsL} {c : Cell} : (cs ++ [c])[cs.length]? = some c := by simp
theorem get_prev2 {cs : CsL} {b c d : Cell} : (cs ++ [b] ++ [c] ++ [d])[cs.length]? = some b := by simp
theorem joinL_one : ∀ l : List Nat, TL.joinL [] (l.map fun c => [c]) = l
  | [] => rfl
  | [c] => rfl
  | c :: d :: l => by
    have ih := joinL_one (d :: l)
    show [c] ++ [] ++ TL.joinL [] ([d] :: l.map fun c => [c]) = c :: d :: l
    rw [List.append_nil]
    exact congrArg (c :: ·) ih
theorem join_one (l : List Nat) : Txt.join (Str.ofString "") (l.map fun c => (⟨#[c]⟩ : Str)) = SX.S l := by
  have := SX.join_S [] (l.map fun c => [c])
  rw [joinL_one, List.map_map] at this
  exact this
def p__law_are_names_right : PD := fun ds cs P Ex => ∃ dk ck : Nat, ds = [.loc dk] ∧ DeckAt dk ck cs ∧ ∀ cs', DeckAt dk ck cs' → SameBut dk ck cs cs' → P (.bl true) cs'
theorem name_str {z : Str} {cs : CsL} (h : z.length ≤ sizeLine) : NameOk (.str z) cs := ⟨⟨"str", rfl⟩, fun z' e => by cases e; exact h⟩
theorem name_int {i : Int} {cs : CsL} : NameOk (.int i) cs := ⟨⟨"int", rfl⟩, fun z' e => by cases e⟩
theorem name_tup {xs : List D} {cs : CsL} : NameOk (.tup xs) cs := ⟨⟨"tuple", rfl⟩, fun z' e => by cases e⟩
theorem name_loc {n : Nat} {xs : List D} {cs : CsL} (h : cs[n]? = some (.lst xs)) : NameOk (.loc n) cs := ⟨⟨"list", by simp only [tyOfD, h]⟩, fun z' e => by cases e⟩
theorem rng1 {j : Int} {cs : CsL} {Q : List D → (CsL → Prop) → CsL → Prop} (h : 0 ≤ j ∧ j < 1000000) (q : Q (wRange 0 j.toNat) (fun _ => True) cs) : (-(2 ^ 62) ≤ j ∧ j < 2 ^ 62) ∧ Q (wRange 0 j.toNat) (fun _ => True) cs := ⟨⟨by omega, by omega⟩, q⟩
theorem wRange_len (lo : Int) (n : Nat) : (wRange lo n).length = n := by simp [wRange]
theorem rep2 {n : Nat} {xs : List D} {cs : CsL} {Q : DK} (h : cs[n]? = some (.lst xs)) (hl : xs.length ≤ 1000) (q : Q (.loc cs.length) (cs ++ [.lst (xs ++ xs)])) : rMulD (.loc n) (.int 2) cs Q := by
  simp only [rMulD, h]
  refine ⟨by decide, by decide, ?_, ?_⟩
  · show xs.length * 2 ≤ sizeLine
    rw [sizeLine_eq]
    omega
  · have e : (List.replicate (2 : Int).toNat xs).flatten = xs ++ xs := by
      show (List.replicate 2 xs).flatten = xs ++ xs
      simp [List.replicate]
    rw [e]
    exact q
theorem join_cell {n : Nat} {ys : List Str} {cs : CsL} {Q : DK} (h : cs[n]? = some (.lst (ys.map D.str))) (hl : ys.length ≤ 1000) (h1 : ∀ y ∈ ys, y.length ≤ 1) (q : Q (.str (Txt.join (Str.ofString "") ys)) cs) : mJoin (.str (Str.ofString "")) [.loc n] cs Q := by
  refine ⟨ys, seq_cell h, ?_, q⟩
  have hs : ∀ l : List Str, (∀ y ∈ l, y.length ≤ 1) → (l.map (·.length)).sum ≤ l.length := fun l => by
    induction l with
    | nil => intro _; simp
    | cons a l ih =>
      intro h
      have h1 := ih fun y hy => h y (List.mem_cons_of_mem _ hy)
      have h2 := h a List.mem_cons_self
      simp only [List.map_cons, List.sum_cons, List.length_cons]
      omega
  have := hs ys h1
  have e : (Str.ofString "").length = 0 := rfl
  rw [e]
  omega

def t__law_are_names_right : TSD := sSeq (sSet 1 (dC (.str "abcdefghijklmnopqrstuvwxyz0123456789")))
 (sSeq (sFor (wRng1 (aCons (dC (.int 8)) aNil)) (tgName 2)
 (sSeq (sSet 3 (dMeth "str" mJoin (dC (.str "")) (aCons (dLc (wRng1 (aCons (dBin rAdd (dC (.int 1)) (dCall p__law_draw (aCons (dVar 0) (aCons (dC (.int 9)) aNil)))) aNil)) (.nm 4) tYesD (dCall p__law_pick (aCons (dVar 0) (aCons (dVar 1) aNil))) [4]) aNil)))
 (sSeq (sSet 5 (dCall p__law_draw (aCons (dVar 0) (aCons (dCallB rLen (aCons (dVar 3) aNil)) aNil))))
 (sSeq (sSet 6 (dCall p__law_pick (aCons (dVar 0) (aCons (dLst (aCons (dC (.str "A")) (aCons (dC (.str "Z")) (aCons (dC (.str " ")) (aCons (dC (.str "-")) (aCons (dC (.str "_")) (aCons (dC (.str "@")) (aCons (dC (.str "[")) (aCons (dC (.str "`")) (aCons (dC (.str "{")) (aCons (dC (.str "/")) (aCons (dC (.str ":")) (aCons (dC (.str "\n")) (aCons (dC (.str "\t")) (aCons (dC (.str "")) (aCons (dC (.str ".")) aNil)))))))))))))))) aNil))))
 (sFor (wAny (dTup (aCons (dVar 3) (aCons (dBin rAdd (dBin rAdd (dSl (dVar 3) oNone (oSome (dVar 5))) (dVar 6)) (dSl (dVar 3) (oSome (dBin rAdd (dVar 5) (dC (.int 1)))) oNone)) (aCons (dBin rAdd (dVar 3) (dVar 6)) (aCons (dBin rAdd (dVar 6) (dVar 3)) (aCons (dMeth0 "str" mUpper (dVar 3)) (aCons (dTup (aCons (dVar 3) aNil)) (aCons (dLst (aCons (dVar 3) aNil)) (aCons (dCallB rLen (aCons (dVar 3) aNil)) aNil)))))))))) (tgName 7)
 (sIf (dNot (dTest (dCall p__law_same (aCons (dLst (aCons (dCall p_is_name (aCons (dVar 7) aNil)) (aCons (dCallK 0 1 [0] p_is_name aNil (aCons (dVar 7) aNil)) aNil))) (aCons (dBin rMulD (dLst (aCons (dCall p__law_is_name (aCons (dVar 7) aNil)) aNil)) (dC (.int 2))) aNil)))))
 (sRet (dC (.bl false)))
 (sNext)))))))
 (sRet (dCall p__law_same (aCons (dLc (wAny (dTup (aCons (dC (.str "")) (aCons (dC (.str "a")) (aCons (dC (.str "9")) (aCons (dC (.str "a2345678")) (aCons (dC (.str "a23456789")) (aCons (dC (.non)) (aCons (dC (.bl true)) (aCons (dC (.int 0)) (aCons (dBin rMulD (dC (.str "z")) (dC (.int 2000))) aNil))))))))))) (.nm 7) tYesD (dCall p_is_name (aCons (dVar 7) aNil)) [7]) (aCons (dLst (aCons (dC (.bl false)) (aCons (dC (.bl true)) (aCons (dC (.bl false)) (aCons (dC (.bl true)) (aCons (dC (.bl false)) (aCons (dC (.bl false)) (aCons (dC (.bl false)) (aCons (dC (.bl false)) (aCons (dC (.bl false)) aNil)))))))))) aNil)))))
def t_nm_round : TSD := sSeq (sSet 3 (dMeth "str" mJoin (dC (.str "")) (aCons (dLc (wRng1 (aCons (dBin rAdd (dC (.int 1)) (dCall p__law_draw (aCons (dVar 0) (aCons (dC (.int 9)) aNil)))) aNil)) (.nm 4) tYesD (dCall p__law_pick (aCons (dVar 0) (aCons (dVar 1) aNil))) [4]) aNil)))
 (sSeq (sSet 5 (dCall p__law_draw (aCons (dVar 0) (aCons (dCallB rLen (aCons (dVar 3) aNil)) aNil))))
 (sSeq (sSet 6 (dCall p__law_pick (aCons (dVar 0) (aCons (dLst (aCons (dC (.str "A")) (aCons (dC (.str "Z")) (aCons (dC (.str " ")) (aCons (dC (.str "-")) (aCons (dC (.str "_")) (aCons (dC (.str "@")) (aCons (dC (.str "[")) (aCons (dC (.str "`")) (aCons (dC (.str "{")) (aCons (dC (.str "/")) (aCons (dC (.str ":")) (aCons (dC (.str "\n")) (aCons (dC (.str "\t")) (aCons (dC (.str "")) (aCons (dC (.str ".")) aNil)))))))))))))))) aNil))))
 (sFor (wAny (dTup (aCons (dVar 3) (aCons (dBin rAdd (dBin rAdd (dSl (dVar 3) oNone (oSome (dVar 5))) (dVar 6)) (dSl (dVar 3) (oSome (dBin rAdd (dVar 5) (dC (.int 1)))) oNone)) (aCons (dBin rAdd (dVar 3) (dVar 6)) (aCons (dBin rAdd (dVar 6) (dVar 3)) (aCons (dMeth0 "str" mUpper (dVar 3)) (aCons (dTup (aCons (dVar 3) aNil)) (aCons (dLst (aCons (dVar 3) aNil)) (aCons (dCallB rLen (aCons (dVar 3) aNil)) aNil)))))))))) (tgName 7)
 (sIf (dNot (dTest (dCall p__law_same (aCons (dLst (aCons (dCall p_is_name (aCons (dVar 7) aNil)) (aCons (dCallK 0 1 [0] p_is_name aNil (aCons (dVar 7) aNil)) aNil))) (aCons (dBin rMulD (dLst (aCons (dCall p__law_is_name (aCons (dVar 7) aNil)) aNil)) (dC (.int 2))) aNil)))))
 (sRet (dC (.bl false)))
 (sNext)))))
def t_nm_it : TSD := sIf (dNot (dTest (dCall p__law_same (aCons (dLst (aCons (dCall p_is_name (aCons (dVar 7) aNil)) (aCons (dCallK 0 1 [0] p_is_name aNil (aCons (dVar 7) aNil)) aNil))) (aCons (dBin rMulD (dLst (aCons (dCall p__law_is_name (aCons (dVar 7) aNil)) aNil)) (dC (.int 2))) aNil)))))
 (sRet (dC (.bl false)))
 (sNext)
def t_nm_end : TSD := sRet (dCall p__law_same (aCons (dLc (wAny (dTup (aCons (dC (.str "")) (aCons (dC (.str "a")) (aCons (dC (.str "9")) (aCons (dC (.str "a2345678")) (aCons (dC (.str "a23456789")) (aCons (dC (.non)) (aCons (dC (.bl true)) (aCons (dC (.int 0)) (aCons (dBin rMulD (dC (.str "z")) (dC (.int 2000))) aNil))))))))))) (.nm 7) tYesD (dCall p_is_name (aCons (dVar 7) aNil)) [7]) (aCons (dLst (aCons (dC (.bl false)) (aCons (dC (.bl true)) (aCons (dC (.bl false)) (aCons (dC (.bl true)) (aCons (dC (.bl false)) (aCons (dC (.bl false)) (aCons (dC (.bl false)) (aCons (dC (.bl false)) (aCons (dC (.bl false)) aNil)))))))))) aNil)))

theorem NameOk.app {d : D} {cs G : CsL} (h : NameOk d cs) : NameOk d (cs ++ G) := ⟨h.1.app, h.2⟩
theorem nm_it {Ex : ExW} {P : EndsD} {cs : CsL} {o0 o1 o2 o3 o4 o5 o6 : Option D} {x : D} (hn : NameOk x cs) (q : ∀ G, P.nx [o0, o1, o2, o3, o4, o5, o6, some x] (cs ++ G)) : t_nm_it Ex [o0, o1, o2, o3, o4, o5, o6, some x] cs P := by
  refine ⟨x, rfl, hn, rfl, rfl, x, rfl, hn, ls 2, x, rfl, hn.app, ls 1, ?_⟩
  dsimp only [dC]
  refine rep2 (xs := [.bl (nameB x)]) get_last (show 1 ≤ 1000 by decide) ?_
  refine ⟨_, _, 1 + (1 + 0) + 1, rfl, .lst (lst_cell get_prev2) lst_new (.cons (.bl _) (.cons (.bl _) .nil)), by decide, iftF rfl ?_⟩
  rw [List.append_assoc, List.append_assoc]
  exact q _
theorem z2000 : nameB (.str (strRep (Str.ofString "z") 2000)) = false := by
  have e : (strRep (Str.ofString "z") 2000).length = 2000 := by
    show ((List.replicate 2000 (Str.ofString "z").cps).foldl (· ++ ·) #[]).size = 2000
    rw [foldl_rep_size]
    rfl
  simp only [nameB, e]
  rfl
theorem names9 : [D.bl (nameB (.str "")), .bl (nameB (.str "a")), .bl (nameB (.str "9")), .bl (nameB (.str "a2345678")), .bl (nameB (.str "a23456789")), .bl (nameB .non), .bl (nameB (.bl true)), .bl (nameB (.int 0)), .bl (nameB (.str (strRep (Str.ofString "z") 2000)))]
    = [.bl false, .bl true, .bl false, .bl true, .bl false, .bl false, .bl false, .bl false, .bl false] := by
  rw [z2000, show nameB (.str "") = false by decide +kernel, show nameB (.str "a") = true by decide +kernel, show nameB (.str "9") = false by decide +kernel, show nameB (.str "a2345678") = true by decide +kernel, show nameB (.str "a23456789") = false by decide +kernel]
  rfl
theorem nm_end {Ex : ExW} {P : EndsD} {cs : CsL} {o0 o1 o2 o3 o4 o5 o6 o7 : Option D} (q : ∀ G, P.rt (.bl true) (cs ++ G)) : t_nm_end Ex [o0, o1, o2, o3, o4, o5, o6, o7] cs P := by
  refine ⟨by decide, by decide, rfl, ls 9, ?_⟩
  refine lc_map (fun x => .bl (nameB x)) _ (ls 9) (fun _ => trivial) (fun x hx acc Q q => ⟨x, rfl, ?_, q⟩) ?_
  · simp only [List.mem_cons, List.not_mem_nil, or_false] at hx
    rcases hx with e | e | e | e | e | e | e | e | e <;> subst e
    · exact name_str (by decide)
    · exact name_str (by decide)
    · exact name_str (by decide)
    · exact name_str (by decide)
    · exact name_str (by decide)
    · exact ⟨⟨"NoneType", rfl⟩, fun z' e => by cases e⟩
    · exact ⟨⟨"bool", rfl⟩, fun z' e => by cases e⟩
    · exact name_int
    · refine name_str ?_
      show ((List.replicate 2000 (Str.ofString "z").cps).foldl (· ++ ·) #[]).size ≤ sizeLine
      rw [foldl_rep_size, sizeLine_eq]
      decide
  · refine ⟨ls 9, ?_⟩
    refine ⟨_, _, 1 + (1 + (1 + (1 + (1 + (1 + (1 + (1 + (1 + 0)))))))) + 1, rfl, .lst (lst_cell get_prev) lst_new ?_, by decide, ?_⟩
    · show SameL _ _ [D.bl (nameB (.str "")), .bl (nameB (.str "a")), .bl (nameB (.str "9")), .bl (nameB (.str "a2345678")), .bl (nameB (.str "a23456789")), .bl (nameB .non), .bl (nameB (.bl true)), .bl (nameB (.int 0)), .bl (nameB (.str (strRep (Str.ofString "z") 2000)))] _
      rw [names9]
      exact .cons (.bl _) (.cons (.bl _) (.cons (.bl _) (.cons (.bl _) (.cons (.bl _) (.cons (.bl _) (.cons (.bl _) (.cons (.bl _) (.cons (.bl _) .nil))))))))
    · rw [List.append_assoc]
      exact q _


/-- a text of such signs -/
def TxtOk (l : List Nat) : Prop := 1 ≤ l.length ∧ l.length ≤ 9 ∧ ∀ c ∈ l, c < 128
theorem signs_small : ∀ c ∈ (Str.ofString "abcdefghijklmnopqrstuvwxyz0123456789").cps.toList, c < 128 := by decide +kernel
theorem len_app (x y : Str) : (x ++ y).length = x.length + y.length := by
  show (x.cps ++ y.cps).size = _
  rw [Array.size_append]
  rfl
theorem add_str {x y : Str} {cs : CsL} {Q : DK} (h : x.length + y.length ≤ sizeLine) (q : Q (.str (x ++ y)) cs) : Sim.rAdd (.str x) (.str y) cs Q := ⟨h, q⟩
theorem s_len (l : List Nat) : (SX.S l).length = l.length := by simp [SX.S, Str.length]
def odds : List Str := ["A", "Z", " ", "-", "_", "@", "[", "`", "{", "/", ":", "\n", "\t", "", "."]
theorem odds_len : ∀ s ∈ odds, s.length ≤ 1 := by decide +kernel
theorem nm_round {Ex : ExW} {P : EndsD} {cs : CsL} {dk ck : Nat} {o2 o3 o4 o5 o6 o7 : Option D} (A : DeckAt dk ck cs) (q : ∀ cs2 o3 o4 o5 o6 o7, DeckAt dk ck cs2 → Ext dk ck cs cs2 → P.nx [some (.loc dk), some (.str (Str.ofString "abcdefghijklmnopqrstuvwxyz0123456789")), o2, o3, o4, o5, o6, o7] cs2) :
    t_nm_round Ex [some (.loc dk), some (.str (Str.ofString "abcdefghijklmnopqrstuvwxyz0123456789")), o2, o3, o4, o5, o6, o7] cs P := by
  refine ⟨rfl, dk, ck, 9, rfl, A, by decide, by decide, fun r cs1 r0 r1 A1 S1 => ?_⟩
  refine ⟨⟨by omega, by omega⟩, ?_⟩
  have m1 := A1.lt
  refine lcR_of (fun rest acc cs2 => ∃ l : List Nat, acc = l.map (fun c => D.str ⟨#[c]⟩) ∧ l.length + rest.length = (1 + r).toNat ∧ (∀ c ∈ l, c < 128) ∧ DeckAt dk ck cs2 ∧ Ext dk ck cs cs2 ∧ cs2[cs1.length]? = some (.lst acc)) (fun _ _ _ ⟨_, _, _, _, _, _, h⟩ => h) ?_ ?_ ⟨[], rfl, by rw [wRange_len]; simp, by simp, A1.app _, S1.ext.app _, by simp⟩
  · rintro x rest acc cs2 ⟨l, rfl, hl, hc, A2, E2, hn⟩
    rw [List.length_cons] at hl
    refine ⟨trivial, fun W hW => ?_⟩
    refine ⟨dk, ck, _, _, rfl, A2, .str _ (by decide), by decide +kernel, by decide +kernel, fun y cs3 hy A3 S3 => ?_⟩
    obtain ⟨c, hcm, rfl⟩ := List.mem_map.mp hy
    have hn3 : cs3[cs1.length]? = some (.lst (l.map fun c => D.str ⟨#[c]⟩)) := by
      rw [S3.2 _ (by omega) (by omega)]
      exact hn
    have hlt := (List.getElem?_eq_some_iff.mp hn3).1
    have hc' : c < 128 := signs_small c hcm
    refine ⟨_, hn3, ?_, hW ((l ++ [c]).map fun c => D.str ⟨#[c]⟩) _ ⟨l ++ [c], rfl, by rw [List.length_append, List.length_singleton]; omega, ?_, ?_, ?_, by rw [List.getElem?_set_self hlt]; simp⟩⟩
    · rw [List.length_map, sizeLine_eq]; omega
    · intro c' hc'
      rcases List.mem_append.mp hc' with h | h
      · exact hc c' h
      · rw [List.mem_singleton.mp h]
        exact signs_small c hcm
    · obtain ⟨a1, a2, a3, Dk⟩ := A3
      exact ⟨a1, a2, a3, by rw [List.getElem?_set_ne (by omega)]; exact Dk.d, by rw [List.getElem?_set_ne (by omega)]; exact Dk.c, Dk.n⟩
    · have E3 := E2.trans S3.ext
      refine ⟨by rw [List.length_set]; exact E3.1, fun i hi h1 h2 => ?_⟩
      rw [List.getElem?_set_ne (by have := S1.1; omega)]
      exact E3.2 i hi h1 h2
  · rintro acc cs2 ⟨l, rfl, hl, hc, A2, E2, hn⟩
    refine ⟨trivial, ?_⟩
    rw [List.length_nil, Nat.add_zero] at hl
    have hT : TxtOk l := ⟨by omega, by omega, hc⟩
    have em : l.map (fun c => D.str ⟨#[c]⟩) = (l.map fun c => (⟨#[c]⟩ : Str)).map D.str := by rw [List.map_map]; rfl
    rw [em] at hn
    dsimp only [aNil]
    refine join_cell hn (by rw [List.length_map]; omega) (fun y hy => by obtain ⟨c, _, rfl⟩ := List.mem_map.mp hy; exact Nat.le_refl 1) ?_
    rw [join_one]
    have hz : (SX.S l).length = l.length := s_len l
    have hcz : ∀ c ∈ (SX.S l).cps.toList, c < 128 := by simpa [SX.S] using hc
    generalize SX.S l = z at hz hcz
    have z9 : z.length ≤ 9 := by rw [hz]; exact hT.2.1
    refine ⟨z.length, by simp only [lenD]; rw [if_pos (Nat.le_trans z9 (ls 9))], dk, ck, _, rfl, A2, by have := hT.1; omega, small_log (by omega), fun at_ cs3 _ _ A3 S3 => ?_⟩
    refine ⟨ls 15, dk, ck, _, _, rfl, A3.app _, .loc _ _ ?_ ?_ get_last, by simp, by decide, fun y cs4 hy A4 S4 => ?_⟩
    · have := A3.lt; omega
    · have := A3.lt; omega
    have hy' : ∃ s : Str, y = .str s ∧ s.length ≤ 1 := by
      have : y ∈ odds.map D.str := hy
      obtain ⟨s, hs, rfl⟩ := List.mem_map.mp this
      exact ⟨s, rfl, odds_len s hs⟩
    obtain ⟨s, rfl, hs⟩ := hy'
    have E4 : Ext dk ck cs cs4 := ((E2.trans S3.ext).app _).trans S4.ext
    have szl : 1000 ≤ sizeLine := ls 1000
    have cl := fun lo hi => cutS_length z lo hi
    have zle : z.length ≤ sizeLine := Nat.le_trans z9 (ls 9)
    have c1 := cl none (some at_)
    have c2 := cl (some (at_ + 1)) none
    refine ⟨zle, by omega, zle, by rw [len_app]; omega, by omega, by omega, rfl, by rw [sizeLine_eq] at *; omega, ls 1, ls 1, z.length, by simp only [lenD]; rw [if_pos zle], ls 8, ?_⟩
    refine forD_of (fun rest sl cs5 => (∀ x ∈ rest, NameOk x cs5) ∧ (DeckAt dk ck cs5 ∧ Ext dk ck cs cs5) ∧ ∃ o7', sl = [some (.loc dk), some (.str (Str.ofString "abcdefghijklmnopqrstuvwxyz0123456789")), o2, some (.str z), o4, some (.int at_), some (.str s), o7']) ?_ ?_ ⟨?_, ⟨A4.app _, E4.app _⟩, o7, rfl⟩
    · rintro x rest sl cs5 ⟨hx, ⟨A5, E5⟩, o7', rfl⟩
      refine ⟨trivial, fun W hW => ?_⟩
      exact nm_it (hx x List.mem_cons_self) fun G => hW _ _ ⟨fun y hy => (hx y (List.mem_cons_of_mem _ hy)).app, ⟨A5.app _, E5.app _⟩, _, rfl⟩
    · rintro sl cs5 ⟨hx, ⟨A5, E5⟩, o7', rfl⟩
      exact ⟨trivial, q cs5 _ _ _ _ _ A5 E5⟩
    · intro x hx
      simp only [List.mem_cons, List.not_mem_nil, or_false] at hx
      rcases hx with e | e | e | e | e | e | e | e <;> subst e
      · exact name_str zle
      · refine name_str ?_
        rw [len_app, len_app]
        omega
      · refine name_str ?_
        rw [len_app]
        omega
      · refine name_str ?_
        rw [len_app]
        omega
      · refine name_str ?_
        rw [PyProof.Rows.upper_ascii hcz]
        show (z.cps.map PyProof.Rows.up1).size ≤ sizeLine
        rw [Array.size_map]
        exact zle
      · exact name_tup
      · exact name_loc get_last
      · exact name_int

theorem sc__law_are_names_right : FnScope ["deck", "signs", "go", "text", "k", "at", "odd", "it"] ["deck"] (defScope s__law_are_names_right) := ⟨rfl, rfl, rfl, by decide +kernel, rfl, by decide +kernel, by decide +kernel⟩
theorem kb_is_name_0_thing {G : Gx} {f : Addr} {fd : FuncData} (F : Fun G.K "is_name" "is_name" s_is_name f fd) : KBn G.K fd ["thing"] 0 ["thing"] (fun us ws => pick [0] (us ++ ws)) (fun vs zs => pick [0] (vs ++ zs)) :=
  kbn_mk F fun _ _ _ _ _ _ us ws h1 h2 => match us, ws, h1, h2 with | [], [_], _, _ => rfl
theorem ok__law_are_names_right {G : Gx} (t : Mg G.mg) (hF : Has G "_law_are_names_right" s__law_are_names_right) (h__law_same : DefOk G 1 "_law_same" "_law_same" s__law_same ["told", "due"] p__law_same) (h__law_draw : DefOk G 1 "_law_draw" "_law_draw" s__law_draw ["deck", "many"] p__law_draw) (h__law_pick : DefOk G 2 "_law_pick" "_law_pick" s__law_pick ["deck", "some"] p__law_pick) (h_is_name : DefOk G 1 "is_name" "is_name" s_is_name ["thing"] p_is_name) (h__law_is_name : DefOk G 1 "_law_is_name" "_law_is_name" s__law_is_name ["thing"] p__law_is_name) : DefOk G 3 "_law_are_names_right" "_law_are_names_right" s__law_are_names_right ["deck"] p__law_are_names_right := by
  refine def_ok hF sc__law_are_names_right (fun ds cs P Ex h => by obtain ⟨_, _, rfl, _⟩ := h; rfl) (fun _ _ _ _ _ _ us hl => match us, hl with | [_], _ => rfl) fun f cd A outer s H E F m good => ⟨t__law_are_names_right, simSs_cons (simS_set 1 good.nd (simE_str))
 (simSs_cons (simS_for own_cx good.calm (simI_rng1 t.range (simA_cons (simE_int) simA_nil)) (simG_name 2 (pg_name good.nd rfl (by first | exact .inl rfl | exact .inr rfl)))
 (simSs_cons (simS_set 3 good.nd (mJoi (simE_str) (simA_cons (simE_lc [("k", 4)] (.nm 4) good.calm good.nd (simI_rng1 t.range (simA_cons (sAdd (simE_int) (simE_call good h__law_draw (simA_cons (sv 0) (simA_cons (simE_int) simA_nil)))) simA_nil)) (blk_okP ["deck", "signs", "go", "text", "k", "at", "odd", "it"] (defScope s__law_are_names_right) rfl rfl (by decide +kernel)) (by decide) (fun _ _ _ _ _ => pg_name good.nd rfl (by first | exact .inl rfl | exact .inr rfl)) (fun _ _ _ _ _ => simTs_nil) (fun _ _ _ _ _ => simE_call (good_blk good) h__law_pick (simA_cons (sv 0) (simA_cons (sv 1) simA_nil)))) simA_nil)))
 (simSs_cons (simS_set 5 good.nd (simE_call good h__law_draw (simA_cons (sv 0) (simA_cons (cLen t.len (simA_cons (sv 3) simA_nil)) simA_nil))))
 (simSs_cons (simS_set 6 good.nd (simE_call good h__law_pick (simA_cons (sv 0) (simA_cons (simE_lst (simA_cons (simE_str) (simA_cons (simE_str) (simA_cons (simE_str) (simA_cons (simE_str) (simA_cons (simE_str) (simA_cons (simE_str) (simA_cons (simE_str) (simA_cons (simE_str) (simA_cons (simE_str) (simA_cons (simE_str) (simA_cons (simE_str) (simA_cons (simE_str) (simA_cons (simE_str) (simA_cons (simE_str) (simA_cons (simE_str) simA_nil)))))))))))))))) simA_nil))))
 (simSs_one (simS_for own_cx good.calm (simI_any (simE_tup (simA_cons (sv 3) (simA_cons (sAdd (sAdd (simE_slice (sv 3) simO_none (simO_some (sv 5))) (sv 6)) (simE_slice (sv 3) (simO_some (sAdd (sv 5) (simE_int))) simO_none)) (simA_cons (sAdd (sv 3) (sv 6)) (simA_cons (sAdd (sv 6) (sv 3)) (simA_cons (mUpp (sv 3)) (simA_cons (simE_tup (simA_cons (sv 3) simA_nil)) (simA_cons (simE_lst (simA_cons (sv 3) simA_nil)) (simA_cons (cLen t.len (simA_cons (sv 3) simA_nil)) simA_nil)))))))))) (simG_name 7 (pg_name good.nd rfl (by first | exact .inl rfl | exact .inr rfl)))
 (simSs_one (simS_if (simT_not (simT_val (simE_call good h__law_same (simA_cons (simE_lst (simA_cons (simE_call good h_is_name (simA_cons (sv 7) simA_nil)) (simA_cons (simE_callK0 good h_is_name (fun _ _ F => kb_is_name_0_thing F) (simK_cons (sv 7) simK_nil)) simA_nil))) (simA_cons (sMul (simE_lst (simA_cons (simE_call good h__law_is_name (simA_cons (sv 7) simA_nil)) simA_nil)) (simE_int)) simA_nil)))))
 (simSs_one (simS_ret (simE_bl)))
 (simSs_nil)))))))))
 (simSs_one (simS_ret (simE_call good h__law_same (simA_cons (simE_lc [("it", 7)] (.nm 7) good.calm good.nd (simI_any (simE_tup (simA_cons (simE_str) (simA_cons (simE_str) (simA_cons (simE_str) (simA_cons (simE_str) (simA_cons (simE_str) (simA_cons (simE_non) (simA_cons (simE_bl) (simA_cons (simE_int) (simA_cons (sMul (simE_str) (simE_int)) simA_nil))))))))))) (blk_okP ["deck", "signs", "go", "text", "k", "at", "odd", "it"] (defScope s__law_are_names_right) rfl rfl (by decide +kernel)) (by decide) (fun _ _ _ _ _ => pg_name good.nd rfl (by first | exact .inl rfl | exact .inr rfl)) (fun _ _ _ _ _ => simTs_nil) (fun _ _ _ _ _ => simE_call (good_blk good) h_is_name (simA_cons (sv 7) simA_nil))) (simA_cons (simE_lst (simA_cons (simE_bl) (simA_cons (simE_bl) (simA_cons (simE_bl) (simA_cons (simE_bl) (simA_cons (simE_bl) (simA_cons (simE_bl) (simA_cons (simE_bl) (simA_cons (simE_bl) (simA_cons (simE_bl) simA_nil)))))))))) simA_nil)))))), fun ds cs P Ex hd hb hp => ?_⟩
  obtain ⟨dk, ck, rfl, A0, k⟩ := hp
  have fin : ∀ {cs2 : CsL} (_ : DeckAt dk ck cs2) (_ : Ext dk ck cs cs2) (o2 o3 o4 o5 o6 o7 : Option D), t_nm_end (ExD G.K G.T cs.length Ex) [some (.loc dk), some (.str (Str.ofString "abcdefghijklmnopqrstuvwxyz0123456789")), o2, o3, o4, o5, o6, o7] cs2 { nx := fun _ cs' => RetD G.K G.T cs.length P .non cs', rt := RetD G.K G.T cs.length P } :=
    fun {cs2} A2 E2 o2 o3 o4 o5 o6 o7 => nm_end fun G => ret_ext 0 hb A0 (A2.app G) (E2.app G) (froz_bel 0 _ bel_bl) bel_bl k
  refine ⟨⟨by decide, by decide⟩, ?_⟩
  refine forD_of (fun rest sl cs5 => (DeckAt dk ck cs5 ∧ Ext dk ck cs cs5) ∧ ∃ o2 o3 o4 o5 o6 o7, sl = [some (.loc dk), some (.str (Str.ofString "abcdefghijklmnopqrstuvwxyz0123456789")), o2, o3, o4, o5, o6, o7]) ?_ ?_ ⟨⟨A0, .refl⟩, none, none, none, none, none, none, rfl⟩
  · rintro x rest sl cs5 ⟨⟨A5, E5⟩, o2, o3, o4, o5, o6, o7, rfl⟩
    refine ⟨trivial, fun W hW => ?_⟩
    exact nm_round A5 fun cs6 o3' o4' o5' o6' o7' A6 E6 => hW _ _ ⟨⟨A6, E5.trans E6⟩, _, _, _, _, _, _, rfl⟩
  · rintro sl cs5 ⟨⟨A5, E5⟩, o2, o3, o4, o5, o6, o7, rfl⟩
    exact ⟨trivial, fin A5 E5 _ _ _ _ _ _⟩
end K01


namespace K01
open PySem PySem.Spec PyProof.Rows L2 Sim
open Kit0 LamX

def lawN : List Str := ["script", "deck", "turn", "top", "bottom", "times_more", "due", "told", "odd", "bad", "heard", "right", "wrong", "worse", "call"]
/-- what is known of the errors -/
structure Errs (G : Gx) (C_BadMany C_BadEffect Y : Addr) : Prop where
  many : ErrC G.K Y C_BadMany
  effect : ErrC G.K Y C_BadEffect
  mMany : G.mg "BadMany" = some (.ref C_BadMany)
  mEffect : G.mg "BadEffect" = some (.ref C_BadEffect)
  mY : G.mg "YardError" = some (.ref Y)
  apart : Apart G.K [(C_BadMany, "many"), (C_BadEffect, "effect")]
  ne : C_BadMany ≠ C_BadEffect
abbrev lawHs (C_BadMany C_BadEffect : Addr) : List (Addr × Str) := [(C_BadMany, "many"), (C_BadEffect, "effect")]

theorem sc__law_tried : FnScope ["call", "e"] ["call"] (defScope s__law_tried) := ⟨rfl, rfl, rfl, by decide +kernel, rfl, by decide +kernel, by decide +kernel⟩
theorem sc_law : FnScope ["script", "deck", "turn", "top", "bottom", "times_more", "due", "told", "odd", "bad", "heard", "right", "wrong", "worse", "call"] ["script"] (defScope s_law) := ⟨rfl, rfl, rfl, by decide +kernel, rfl, by decide +kernel, by decide +kernel⟩

/-- the law's context -/
abbrev lawB (G : Gx) (f : Addr) (c : Addr) (A : Around) (outer : List Env) (s : Shared) (H : Hp) (E : XK) (F : Hp) (m : List Addr) : Bx := bxOf G lawN "law" (defScope s_law) f (.ref c) A outer s H E F m
def lamQ : Str := (envOfC "law" (defScope s_law) 0 0 .none).qual ++ "<lambda>"
theorem tried {G : Gx} {k : Nat} {f c P C_BadMany C_BadEffect Y : Addr} {A : Around} {outer : List Env} {s : Shared} {H : Hp} {E : XK} {F : Hp} {m : List Addr} (t : Mg G.mg) (good : Good G (k + 2) (lawB G f c A outer s H E F m)) (hT : Has G "_law_tried" s__law_tried)
    (TB : TabB G.base G.mg c P) (eT : G.T = [(P, lamQ)]) (er : Errs G C_BadMany C_BadEffect Y) {params : Arguments} {body : Expr} {scope : Scope} {p lpos pos : Pos} {tb : TED} (L : lamSB (defScope s_law) scope = true)
    (hdef : defaultsOf params (lawB G f c A outer s H E F m).X.env = ([], [])) (hbind : ∀ (q : Str) (cl : List (Str × Addr)) (pm cv ctv : Value), bindArgs (PySem.W.kla_fn "<lambda>" q params body scope cl pm cv ctv) ⟨[], []⟩ = pure [])
    (hbody : ∀ (A' : Around) (outer' : List Env) (s' : Shared) (H' : Hp) (E' : XK) (f' c' : Addr) (w : W0), Good G k (lamB (lawB G f c A outer s H E F m) A' outer' s' H' E' scope f' c' w) → SimE (lamB (lawB G f c A outer s H E F m) A' outer' s' H' E' scope f' c' w) body tb) :
    SimE (lawB G f c A outer s H E F m) (.Call (.Name "_law_tried" p) [.Lambda params body scope lpos] [] pos) (dTried "told" (lawHs C_BadMany C_BadEffect) tb) := by
  obtain ⟨g, fd, hm, hF⟩ := hT
  obtain ⟨oc, od, kV, doc, pm, an, cdv, ct, osl, rfl, lk, hcd⟩ := hF.ex
  have b1 := hF.binds (ps := ["call"]) fun _ _ _ _ _ _ us hl => match us, hl with | [_], _ => rfl
  refine simE_tried (B := lawB G f c A outer s H E F m) (a := "call") (Ng := ["call", "e"]) rfl hm hF.kp lk hcd b1 sc__law_tried rfl (.inl rfl) ?_ TB rfl (by show (P, lamQ) ∈ G.T; rw [eT]; exact List.mem_singleton.mpr rfl) ?_ good.room (lamS_by (sc := defScope s_law) L) hdef hbind (fun A' outer' s' H' E' f' c' w hr => hbody A' outer' s' H' E' f' c' w (good_lam good hr rfl)) (by decide) (by decide) (by decide)
  · exact tried_gives (Y := Y) (y := "YardError") (n := "e") er.apart (fun s' H' => .cons er.many ⟨rfl, by decide, .inl er.mMany⟩ (.cons er.effect ⟨rfl, by decide, .inl er.mEffect⟩ .nil)) (by decide) (fun _ => rfl) rfl rfl rfl er.mY rfl t.isinstance (by decide) (by decide) (by decide)
  · intro q hq _
    have hq' : q ∈ G.T := hq
    rw [eT] at hq'
    rw [List.mem_singleton.mp hq']
    rfl

end K01


namespace K01
open PySem PySem.Spec PyProof.Rows L2 Sim
open Kit0 LamX
def t_law (C_BadMany C_BadEffect f_plus f_times f_compared : Addr) (S_call : Addr → PD → Prop) : TSD := sSeq (sSet 1 (dCall p__law_deck (aCons (dVar 0) aNil)))
 (sSeq (sFor (wRng1 (aCons (dC (.int 6)) aNil)) (tgName 2)
 (sSeq (sAsg (dTup (aCons (dCall p__law_drawn_number (aCons (dVar 1) aNil)) (aCons (dCall p__law_drawn_number (aCons (dVar 1) aNil)) aNil))) (tgTup 2 (tgCons (tgName 3) (tgCons (tgName 4) tgNil))))
 (sSeq (sSet 5 (dBin rAdd (dC (.int 1)) (dCall p__law_draw (aCons (dVar 1) (aCons (dC (.int 9)) aNil)))))
 (sSeq (sIf (dTest (dBin (rEqvE true) (dVar 4) (dC (.int 0))))
 (sSeq (sSet 6 (dCall p__law_lowest (aCons (dVar 3) (aCons (dVar 4) aNil))))
 (sSeq (sSet 7 (dLst (aCons (dCall (p_lowest C_BadMany) (aCons (dVar 3) (aCons (dVar 4) aNil))) (aCons (dCallK 0 2 [1, 0] (p_lowest C_BadMany) aNil (aCons (dVar 4) (aCons (dVar 3) aNil))) (aCons (dCall (p_lowest C_BadMany) (aCons (dC (.int 0)) (aCons (dVar 4) aNil))) aNil)))))
 (sSeq (sIf (dNot (dTest (dCall p__law_same (aCons (dVar 7) (aCons (dLst (aCons (dVar 6) (aCons (dVar 6) (aCons (dTup (aCons (dC (.int 0)) (aCons (dC (.int 1)) aNil))) aNil)))) aNil)))))
 (sRet (dC (.bl false)))
 (sNext))
 (sIf (dAnd (dTest (dBin rLt (dCallB rAbs (aCons (dVar 3) aNil)) (dBin rPow (dC (.int 10)) (dC (.int 11))))) (dAnd (dTest (dBin rLt (dCallB rAbs (aCons (dVar 4) aNil)) (dBin rPow (dC (.int 10)) (dC (.int 11))))) (dNot (dTest (dCall p__law_same (aCons (dCall (p_lowest C_BadMany) (aCons (dBin rMulD (dVar 5) (dVar 3)) (aCons (dBin rMulD (dVar 5) (dVar 4)) aNil))) (aCons (dVar 6) aNil)))))))
 (sRet (dC (.bl false)))
 (sNext)))))
 (sIf (dNot (dTest (dCall p__law_same (aCons (dTried "told" (lawHs C_BadMany C_BadEffect) (dCall (p_lowest C_BadMany) (aCons (dVar 3) (aCons (dVar 4) aNil)))) (aCons (dTup (aCons (dC (.str "many")) (aCons (dC (.int 0)) (aCons (dC (.bl true)) aNil)))) aNil)))))
 (sRet (dC (.bl false)))
 (sNext)))
 (sIf (dNot (dTest (dCall p__law_are_sums_right (aCons (dCall p__law_fraction (aCons (dVar 1) aNil)) (aCons (dCall p__law_fraction (aCons (dVar 1) aNil)) aNil)))))
 (sRet (dC (.bl false)))
 (sNext))))))
 (sSeq (sAsg (dTup (aCons (dCall p__law_no_number (aCons (dVar 1) aNil)) (aCons (dCall p__law_no_number (aCons (dVar 1) aNil)) aNil))) (tgTup 2 (tgCons (tgName 8) (tgCons (tgName 9) tgNil))))
 (sSeq (sSet 10 (dLst (aCons (dTried "told" (lawHs C_BadMany C_BadEffect) (dCall (p_lowest C_BadMany) (aCons (dVar 8) (aCons (dVar 9) aNil)))) (aCons (dTried "told" (lawHs C_BadMany C_BadEffect) (dCall (p_lowest C_BadMany) (aCons (dC (.int 7)) (aCons (dVar 9) aNil)))) (aCons (dTried "told" (lawHs C_BadMany C_BadEffect) (dCallK 0 2 [1, 0] (p_lowest C_BadMany) aNil (aCons (dC (.int 0)) (aCons (dVar 8) aNil)))) aNil)))))
 (sSeq (sSet 6 (dLst (aCons (dTup (aCons (dC (.str "many")) (aCons (dVar 8) (aCons (dC (.bl true)) aNil)))) (aCons (dTup (aCons (dC (.str "many")) (aCons (dVar 9) (aCons (dC (.bl true)) aNil)))) (aCons (dTup (aCons (dC (.str "many")) (aCons (dVar 8) (aCons (dC (.bl true)) aNil)))) aNil)))))
 (sSeq (sAsg (dTup (aCons (dCall p__law_fraction (aCons (dVar 1) aNil)) (aCons (dCall p__law_no_fraction (aCons (dVar 1) aNil)) (aCons (dCall p__law_no_fraction (aCons (dVar 1) aNil)) aNil)))) (tgTup 3 (tgCons (tgName 11) (tgCons (tgName 12) (tgCons (tgName 13) tgNil)))))
 (sSeq (sFor (wAny (dTup (aCons (dC (.fn f_plus)) (aCons (dC (.fn f_times)) (aCons (dC (.fn f_compared)) aNil))))) (tgName 14)
 (sSeq (sSet 10 (dBin rAdd (dVar 10) (dLst (aCons (dTried "told" (lawHs C_BadMany C_BadEffect) (dCallL 14 S_call (aCons (dVar 12) (aCons (dVar 13) aNil)))) (aCons (dTried "told" (lawHs C_BadMany C_BadEffect) (dCallL 14 S_call (aCons (dVar 11) (aCons (dVar 13) aNil)))) (aCons (dTried "told" (lawHs C_BadMany C_BadEffect) (dCallLK 14 0 2 [1, 0] S_call (aCons (dVar 11) (aCons (dVar 12) aNil)))) aNil))))))
 (sSet 6 (dBin rAdd (dVar 6) (dLst (aCons (dTup (aCons (dC (.str "effect")) (aCons (dVar 12) (aCons (dC (.bl true)) aNil)))) (aCons (dTup (aCons (dC (.str "effect")) (aCons (dVar 13) (aCons (dC (.bl true)) aNil)))) (aCons (dTup (aCons (dC (.str "effect")) (aCons (dVar 12) (aCons (dC (.bl true)) aNil)))) aNil))))))))
 (sRet (dAndV (dCall p__law_same (aCons (dVar 10) (aCons (dVar 6) aNil))) (dCall p__law_are_names_right (aCons (dVar 1) aNil))))))))))
def t_law_round (C_BadMany C_BadEffect f_plus f_times f_compared : Addr) (S_call : Addr → PD → Prop) : TSD := sSeq (sAsg (dTup (aCons (dCall p__law_drawn_number (aCons (dVar 1) aNil)) (aCons (dCall p__law_drawn_number (aCons (dVar 1) aNil)) aNil))) (tgTup 2 (tgCons (tgName 3) (tgCons (tgName 4) tgNil))))
 (sSeq (sSet 5 (dBin rAdd (dC (.int 1)) (dCall p__law_draw (aCons (dVar 1) (aCons (dC (.int 9)) aNil)))))
 (sSeq (sIf (dTest (dBin (rEqvE true) (dVar 4) (dC (.int 0))))
 (sSeq (sSet 6 (dCall p__law_lowest (aCons (dVar 3) (aCons (dVar 4) aNil))))
 (sSeq (sSet 7 (dLst (aCons (dCall (p_lowest C_BadMany) (aCons (dVar 3) (aCons (dVar 4) aNil))) (aCons (dCallK 0 2 [1, 0] (p_lowest C_BadMany) aNil (aCons (dVar 4) (aCons (dVar 3) aNil))) (aCons (dCall (p_lowest C_BadMany) (aCons (dC (.int 0)) (aCons (dVar 4) aNil))) aNil)))))
 (sSeq (sIf (dNot (dTest (dCall p__law_same (aCons (dVar 7) (aCons (dLst (aCons (dVar 6) (aCons (dVar 6) (aCons (dTup (aCons (dC (.int 0)) (aCons (dC (.int 1)) aNil))) aNil)))) aNil)))))
 (sRet (dC (.bl false)))
 (sNext))
 (sIf (dAnd (dTest (dBin rLt (dCallB rAbs (aCons (dVar 3) aNil)) (dBin rPow (dC (.int 10)) (dC (.int 11))))) (dAnd (dTest (dBin rLt (dCallB rAbs (aCons (dVar 4) aNil)) (dBin rPow (dC (.int 10)) (dC (.int 11))))) (dNot (dTest (dCall p__law_same (aCons (dCall (p_lowest C_BadMany) (aCons (dBin rMulD (dVar 5) (dVar 3)) (aCons (dBin rMulD (dVar 5) (dVar 4)) aNil))) (aCons (dVar 6) aNil)))))))
 (sRet (dC (.bl false)))
 (sNext)))))
 (sIf (dNot (dTest (dCall p__law_same (aCons (dTried "told" (lawHs C_BadMany C_BadEffect) (dCall (p_lowest C_BadMany) (aCons (dVar 3) (aCons (dVar 4) aNil)))) (aCons (dTup (aCons (dC (.str "many")) (aCons (dC (.int 0)) (aCons (dC (.bl true)) aNil)))) aNil)))))
 (sRet (dC (.bl false)))
 (sNext)))
 (sIf (dNot (dTest (dCall p__law_are_sums_right (aCons (dCall p__law_fraction (aCons (dVar 1) aNil)) (aCons (dCall p__law_fraction (aCons (dVar 1) aNil)) aNil)))))
 (sRet (dC (.bl false)))
 (sNext))))
def t_law_end (C_BadMany C_BadEffect f_plus f_times f_compared : Addr) (S_call : Addr → PD → Prop) : TSD := sSeq (sAsg (dTup (aCons (dCall p__law_no_number (aCons (dVar 1) aNil)) (aCons (dCall p__law_no_number (aCons (dVar 1) aNil)) aNil))) (tgTup 2 (tgCons (tgName 8) (tgCons (tgName 9) tgNil))))
 (sSeq (sSet 10 (dLst (aCons (dTried "told" (lawHs C_BadMany C_BadEffect) (dCall (p_lowest C_BadMany) (aCons (dVar 8) (aCons (dVar 9) aNil)))) (aCons (dTried "told" (lawHs C_BadMany C_BadEffect) (dCall (p_lowest C_BadMany) (aCons (dC (.int 7)) (aCons (dVar 9) aNil)))) (aCons (dTried "told" (lawHs C_BadMany C_BadEffect) (dCallK 0 2 [1, 0] (p_lowest C_BadMany) aNil (aCons (dC (.int 0)) (aCons (dVar 8) aNil)))) aNil)))))
 (sSeq (sSet 6 (dLst (aCons (dTup (aCons (dC (.str "many")) (aCons (dVar 8) (aCons (dC (.bl true)) aNil)))) (aCons (dTup (aCons (dC (.str "many")) (aCons (dVar 9) (aCons (dC (.bl true)) aNil)))) (aCons (dTup (aCons (dC (.str "many")) (aCons (dVar 8) (aCons (dC (.bl true)) aNil)))) aNil)))))
 (sSeq (sAsg (dTup (aCons (dCall p__law_fraction (aCons (dVar 1) aNil)) (aCons (dCall p__law_no_fraction (aCons (dVar 1) aNil)) (aCons (dCall p__law_no_fraction (aCons (dVar 1) aNil)) aNil)))) (tgTup 3 (tgCons (tgName 11) (tgCons (tgName 12) (tgCons (tgName 13) tgNil)))))
 (sSeq (sFor (wAny (dTup (aCons (dC (.fn f_plus)) (aCons (dC (.fn f_times)) (aCons (dC (.fn f_compared)) aNil))))) (tgName 14)
 (sSeq (sSet 10 (dBin rAdd (dVar 10) (dLst (aCons (dTried "told" (lawHs C_BadMany C_BadEffect) (dCallL 14 S_call (aCons (dVar 12) (aCons (dVar 13) aNil)))) (aCons (dTried "told" (lawHs C_BadMany C_BadEffect) (dCallL 14 S_call (aCons (dVar 11) (aCons (dVar 13) aNil)))) (aCons (dTried "told" (lawHs C_BadMany C_BadEffect) (dCallLK 14 0 2 [1, 0] S_call (aCons (dVar 11) (aCons (dVar 12) aNil)))) aNil))))))
 (sSet 6 (dBin rAdd (dVar 6) (dLst (aCons (dTup (aCons (dC (.str "effect")) (aCons (dVar 12) (aCons (dC (.bl true)) aNil)))) (aCons (dTup (aCons (dC (.str "effect")) (aCons (dVar 13) (aCons (dC (.bl true)) aNil)))) (aCons (dTup (aCons (dC (.str "effect")) (aCons (dVar 12) (aCons (dC (.bl true)) aNil)))) aNil))))))))
 (sRet (dAndV (dCall p__law_same (aCons (dVar 10) (aCons (dVar 6) aNil))) (dCall p__law_are_names_right (aCons (dVar 1) aNil))))))))
theorem kb_lowest_0_den_number {G : Gx} {f : Addr} {fd : FuncData} (F : Fun G.K "lowest" "lowest" s_lowest f fd) : KBn G.K fd ["number", "den"] 0 ["den", "number"] (fun us ws => pick [1, 0] (us ++ ws)) (fun vs zs => pick [1, 0] (vs ++ zs)) :=
  kbn_mk F fun _ _ _ _ _ _ us ws h1 h2 => match us, ws, h1, h2 with | [], [_, _], _, _ => rfl
theorem law_dv {G : Gx} {f c P C_BadMany C_BadEffect Y : Addr} {A : Around} {outer : List Env} {s : Shared} {H : Hp} {E : XK} {F : Hp} {m : List Addr} {f_plus f_times f_compared : Addr} (t : Mg G.mg) (good : Good G 20 (lawB G f c A outer s H E F m)) (hT : Has G "_law_tried" s__law_tried)
    (TB : TabB G.base G.mg c P) (eT : G.T = [(P, lamQ)]) (er : Errs G C_BadMany C_BadEffect Y) (m_plus : G.mg "plus" = some (.ref f_plus)) (m_times : G.mg "times" = some (.ref f_times)) (m_compared : G.mg "compared" = some (.ref f_compared))
    (S_call : Addr → PD → Prop) (hS_call : ∀ f p, S_call f p → HeldOk G 5 ["one", "other"] f p) (hSK_call : ∀ f p, S_call f p → HeldOkK G 5 ["one", "other"] 0 ["other", "one"] [1, 0] f p) (h__law_deck : DefOk G 1 "_law_deck" "_law_deck" s__law_deck ["script"] p__law_deck) (h__law_no_number : DefOk G 3 "_law_no_number" "_law_no_number" s__law_no_number ["deck"] p__law_no_number) (h__law_fraction : DefOk G 4 "_law_fraction" "_law_fraction" s__law_fraction ["deck"] p__law_fraction) (h__law_no_fraction : DefOk G 5 "_law_no_fraction" "_law_no_fraction" s__law_no_fraction ["deck"] p__law_no_fraction) (h__law_same : DefOk G 1 "_law_same" "_law_same" s__law_same ["told", "due"] p__law_same) (h__law_are_names_right : DefOk G 3 "_law_are_names_right" "_law_are_names_right" s__law_are_names_right ["deck"] p__law_are_names_right) (h__law_drawn_number : DefOk G 3 "_law_drawn_number" "_law_drawn_number" s__law_drawn_number ["deck"] p__law_drawn_number) (h__law_draw : DefOk G 1 "_law_draw" "_law_draw" s__law_draw ["deck", "many"] p__law_draw) (h__law_lowest : DefOk G 1 "_law_lowest" "_law_lowest" s__law_lowest ["top", "bottom"] p__law_lowest) (h__law_are_sums_right : DefOk G 6 "_law_are_sums_right" "_law_are_sums_right" s__law_are_sums_right ["one", "other"] p__law_are_sums_right) (h_lowest : DefOk G 3 "lowest" "lowest" s_lowest ["number", "den"] (p_lowest C_BadMany)) (h_plus : DefOk G 5 "plus" "plus" s_plus ["one", "other"] (p_plus C_BadEffect)) (h_times : DefOk G 5 "times" "times" s_times ["one", "other"] (p_times C_BadEffect)) (h_compared : DefOk G 5 "compared" "compared" s_compared ["one", "other"] (p_compared C_BadEffect)) :
    SimSs (lawB G f c A outer s H E F m) (defBody s_law) (t_law C_BadMany C_BadEffect f_plus f_times f_compared S_call) :=
  simSs_cons (simS_set 1 good.nd (simE_call good h__law_deck (simA_cons (sv 0) simA_nil)))
 (simSs_cons (simS_for own_cx good.calm (simI_rng1 t.range (simA_cons (simE_int) simA_nil)) (simG_name 2 (pg_name good.nd rfl (by first | exact .inl rfl | exact .inr rfl)))
 (simSs_cons (simS_asg (simE_tup (simA_cons (simE_call good h__law_drawn_number (simA_cons (sv 1) simA_nil)) (simA_cons (simE_call good h__law_drawn_number (simA_cons (sv 1) simA_nil)) simA_nil))) (simG_tup good.calm (simGs_cons (simG_name 3 (pg_name good.nd rfl (by first | exact .inl rfl | exact .inr rfl))) (simGs_cons (simG_name 4 (pg_name good.nd rfl (by first | exact .inl rfl | exact .inr rfl))) simGs_nil))))
 (simSs_cons (simS_set 5 good.nd (sAdd (simE_int) (simE_call good h__law_draw (simA_cons (sv 1) (simA_cons (simE_int) simA_nil)))))
 (simSs_cons (simS_if (tNeE good (sv 4) (simE_int))
 (simSs_cons (simS_set 6 good.nd (simE_call good h__law_lowest (simA_cons (sv 3) (simA_cons (sv 4) simA_nil))))
 (simSs_cons (simS_set 7 good.nd (simE_lst (simA_cons (simE_call good h_lowest (simA_cons (sv 3) (simA_cons (sv 4) simA_nil))) (simA_cons (simE_callK0 good h_lowest (fun _ _ F => kb_lowest_0_den_number F) (simK_cons (sv 4) (simK_cons (sv 3) simK_nil))) (simA_cons (simE_call good h_lowest (simA_cons (simE_int) (simA_cons (sv 4) simA_nil))) simA_nil)))))
 (simSs_cons (simS_if (simT_not (simT_val (simE_call good h__law_same (simA_cons (sv 7) (simA_cons (simE_lst (simA_cons (sv 6) (simA_cons (sv 6) (simA_cons (simE_tup (simA_cons (simE_int) (simA_cons (simE_int) simA_nil))) simA_nil)))) simA_nil)))))
 (simSs_one (simS_ret (simE_bl)))
 (simSs_nil))
 (simSs_one (simS_if (SimW.t (simW_and (tLt good (cAbs t.abs (simA_cons (sv 3) simA_nil)) (sPow (simE_int) (simE_int))) (simW_and (tLt good (cAbs t.abs (simA_cons (sv 4) simA_nil)) (sPow (simE_int) (simE_int))) (simW_and1 (simT_not (simT_val (simE_call good h__law_same (simA_cons (simE_call good h_lowest (simA_cons (sMul (sv 5) (sv 3)) (simA_cons (sMul (sv 5) (sv 4)) simA_nil))) (simA_cons (sv 6) simA_nil)))))))))
 (simSs_one (simS_ret (simE_bl)))
 (simSs_nil))))))
 (simSs_one (simS_if (simT_not (simT_val (simE_call good h__law_same (simA_cons (tried t good hT TB eT er (by decide +kernel) rfl (fun _ _ _ _ _ => rfl) (fun _ _ _ _ _ _ _ _ goodL => simE_call goodL h_lowest (simA_cons (sv 3) (simA_cons (sv 4) simA_nil)))) (simA_cons (simE_tup (simA_cons (simE_str) (simA_cons (simE_int) (simA_cons (simE_bl) simA_nil)))) simA_nil)))))
 (simSs_one (simS_ret (simE_bl)))
 (simSs_nil))))
 (simSs_one (simS_if (simT_not (simT_val (simE_call good h__law_are_sums_right (simA_cons (simE_call good h__law_fraction (simA_cons (sv 1) simA_nil)) (simA_cons (simE_call good h__law_fraction (simA_cons (sv 1) simA_nil)) simA_nil)))))
 (simSs_one (simS_ret (simE_bl)))
 (simSs_nil)))))))
 (simSs_cons (simS_asg (simE_tup (simA_cons (simE_call good h__law_no_number (simA_cons (sv 1) simA_nil)) (simA_cons (simE_call good h__law_no_number (simA_cons (sv 1) simA_nil)) simA_nil))) (simG_tup good.calm (simGs_cons (simG_name 8 (pg_name good.nd rfl (by first | exact .inl rfl | exact .inr rfl))) (simGs_cons (simG_name 9 (pg_name good.nd rfl (by first | exact .inl rfl | exact .inr rfl))) simGs_nil))))
 (simSs_cons (simS_set 10 good.nd (simE_lst (simA_cons (tried t good hT TB eT er (by decide +kernel) rfl (fun _ _ _ _ _ => rfl) (fun _ _ _ _ _ _ _ _ goodL => simE_call goodL h_lowest (simA_cons (sv 8) (simA_cons (sv 9) simA_nil)))) (simA_cons (tried t good hT TB eT er (by decide +kernel) rfl (fun _ _ _ _ _ => rfl) (fun _ _ _ _ _ _ _ _ goodL => simE_call goodL h_lowest (simA_cons (simE_int) (simA_cons (sv 9) simA_nil)))) (simA_cons (tried t good hT TB eT er (by decide +kernel) rfl (fun _ _ _ _ _ => rfl) (fun _ _ _ _ _ _ _ _ goodL => simE_callK0 goodL h_lowest (fun _ _ F => kb_lowest_0_den_number F) (simK_cons (simE_int) (simK_cons (sv 8) simK_nil)))) simA_nil)))))
 (simSs_cons (simS_set 6 good.nd (simE_lst (simA_cons (simE_tup (simA_cons (simE_str) (simA_cons (sv 8) (simA_cons (simE_bl) simA_nil)))) (simA_cons (simE_tup (simA_cons (simE_str) (simA_cons (sv 9) (simA_cons (simE_bl) simA_nil)))) (simA_cons (simE_tup (simA_cons (simE_str) (simA_cons (sv 8) (simA_cons (simE_bl) simA_nil)))) simA_nil)))))
 (simSs_cons (simS_asg (simE_tup (simA_cons (simE_call good h__law_fraction (simA_cons (sv 1) simA_nil)) (simA_cons (simE_call good h__law_no_fraction (simA_cons (sv 1) simA_nil)) (simA_cons (simE_call good h__law_no_fraction (simA_cons (sv 1) simA_nil)) simA_nil)))) (simG_tup good.calm (simGs_cons (simG_name 11 (pg_name good.nd rfl (by first | exact .inl rfl | exact .inr rfl))) (simGs_cons (simG_name 12 (pg_name good.nd rfl (by first | exact .inl rfl | exact .inr rfl))) (simGs_cons (simG_name 13 (pg_name good.nd rfl (by first | exact .inl rfl | exact .inr rfl))) simGs_nil)))))
 (simSs_cons (simS_for own_cx good.calm (simI_any (simE_tup (simA_cons (simE_fn (f := f_plus) m_plus) (simA_cons (simE_fn (f := f_times) m_times) (simA_cons (simE_fn (f := f_compared) m_compared) simA_nil))))) (simG_name 14 (pg_name good.nd rfl (by first | exact .inl rfl | exact .inr rfl)))
 (simSs_cons (simS_set 10 good.nd (sAdd (sv 10) (simE_lst (simA_cons (tried t good hT TB eT er (by decide +kernel) rfl (fun _ _ _ _ _ => rfl) (fun _ _ _ _ _ _ _ _ goodL => simE_callL (i := 14) S_call goodL hS_call (simA_cons (sv 12) (simA_cons (sv 13) simA_nil)))) (simA_cons (tried t good hT TB eT er (by decide +kernel) rfl (fun _ _ _ _ _ => rfl) (fun _ _ _ _ _ _ _ _ goodL => simE_callL (i := 14) S_call goodL hS_call (simA_cons (sv 11) (simA_cons (sv 13) simA_nil)))) (simA_cons (tried t good hT TB eT er (by decide +kernel) rfl (fun _ _ _ _ _ => rfl) (fun _ _ _ _ _ _ _ _ goodL => simE_callLK (i := 14) S_call goodL hSK_call (simK_cons (sv 11) (simK_cons (sv 12) simK_nil)))) simA_nil))))))
 (simSs_one (simS_set 6 good.nd (sAdd (sv 6) (simE_lst (simA_cons (simE_tup (simA_cons (simE_str) (simA_cons (sv 12) (simA_cons (simE_bl) simA_nil)))) (simA_cons (simE_tup (simA_cons (simE_str) (simA_cons (sv 13) (simA_cons (simE_bl) simA_nil)))) (simA_cons (simE_tup (simA_cons (simE_str) (simA_cons (sv 12) (simA_cons (simE_bl) simA_nil)))) simA_nil)))))))))
 (simSs_one (simS_ret (simE_and (simE_call good h__law_same (simA_cons (sv 10) (simA_cons (sv 6) simA_nil))) (simE_one (simE_call good h__law_are_names_right (simA_cons (sv 1) simA_nil))))))))))))
end K01


namespace K01
open PySem PySem.Spec PyProof.Rows L2 Sim
open Kit0 LamX
def t_law_tail : TSD := sIf (dNot (dTest (dCall p__law_are_sums_right (aCons (dCall p__law_fraction (aCons (dVar 1) aNil)) (aCons (dCall p__law_fraction (aCons (dVar 1) aNil)) aNil)))))
 (sRet (dC (.bl false)))
 (sNext)
def t_law_if (C_BadMany C_BadEffect f_plus f_times f_compared : Addr) (S_call : Addr → PD → Prop) : TSD := sIf (dTest (dBin (rEqvE true) (dVar 4) (dC (.int 0))))
 (sSeq (sSet 6 (dCall p__law_lowest (aCons (dVar 3) (aCons (dVar 4) aNil))))
 (sSeq (sSet 7 (dLst (aCons (dCall (p_lowest C_BadMany) (aCons (dVar 3) (aCons (dVar 4) aNil))) (aCons (dCallK 0 2 [1, 0] (p_lowest C_BadMany) aNil (aCons (dVar 4) (aCons (dVar 3) aNil))) (aCons (dCall (p_lowest C_BadMany) (aCons (dC (.int 0)) (aCons (dVar 4) aNil))) aNil)))))
 (sSeq (sIf (dNot (dTest (dCall p__law_same (aCons (dVar 7) (aCons (dLst (aCons (dVar 6) (aCons (dVar 6) (aCons (dTup (aCons (dC (.int 0)) (aCons (dC (.int 1)) aNil))) aNil)))) aNil)))))
 (sRet (dC (.bl false)))
 (sNext))
 (sIf (dAnd (dTest (dBin rLt (dCallB rAbs (aCons (dVar 3) aNil)) (dBin rPow (dC (.int 10)) (dC (.int 11))))) (dAnd (dTest (dBin rLt (dCallB rAbs (aCons (dVar 4) aNil)) (dBin rPow (dC (.int 10)) (dC (.int 11))))) (dNot (dTest (dCall p__law_same (aCons (dCall (p_lowest C_BadMany) (aCons (dBin rMulD (dVar 5) (dVar 3)) (aCons (dBin rMulD (dVar 5) (dVar 4)) aNil))) (aCons (dVar 6) aNil)))))))
 (sRet (dC (.bl false)))
 (sNext)))))
 (sIf (dNot (dTest (dCall p__law_same (aCons (dTried "told" (lawHs C_BadMany C_BadEffect) (dCall (p_lowest C_BadMany) (aCons (dVar 3) (aCons (dVar 4) aNil)))) (aCons (dTup (aCons (dC (.str "many")) (aCons (dC (.int 0)) (aCons (dC (.bl true)) aNil)))) aNil)))))
 (sRet (dC (.bl false)))
 (sNext))

theorem low_ok {X1 X2 : Prop} {i j : Int} {cs : CsL} {R : Int → Int → Prop} (i0 : -MM < i) (i1 : i < MM) (j0 : -MM < j) (j1 : j < MM) (hj : j ≠ 0) (q : R i j) :
    known (.int i) cs ∧ known (.int j) cs ∧ (shortB (.int i) = false → X1) ∧ (shortB (.int i) = true → (shortB (.int j) = false ∨ D.int j = .int 0) → X2) ∧ (∀ a b : Int, D.int i = .int a → D.int j = .int b → shortB (.int i) = true → shortB (.int j) = true → b ≠ 0 → R a b) := by
  have s1 : shortB (.int i) = true := by simp only [shortB, Bool.and_eq_true, decide_eq_true_eq]; exact ⟨i0, i1⟩
  have s2 : shortB (.int j) = true := by simp only [shortB, Bool.and_eq_true, decide_eq_true_eq]; exact ⟨j0, j1⟩
  refine ⟨⟨"int", rfl⟩, ⟨"int", rfl⟩, fun h => (by rw [s1] at h; cases h), fun _ h => ?_, fun a b ea eb _ _ _ => ?_⟩
  · rcases h with h | h
    · rw [s2] at h; cases h
    · cases h; exact absurd rfl hj
  · cases ea; cases eb; exact q
theorem low_zero' {b : Int} (b0 : b ≠ 0) : lowD 0 b = .tup [.int 0, .int 1] := by
  by_cases h : 0 < b
  · exact low_zero h
  · unfold lowD
    rw [if_neg h]
    have e : ((Int.gcd 0 b : Nat) : Int) = -b := by rw [Int.gcd_zero_left]; omega
    rw [e, Int.neg_zero, Int.zero_ediv, Int.ediv_self (by omega)]
theorem low_scale {t a b : Int} (t0 : 0 < t) (b0 : b ≠ 0) : lowD (t * a) (t * b) = lowD a b := by
  have gp := gcd_pos (a := a) b0
  have e : ((Int.gcd (t * a) (t * b) : Nat) : Int) = t * (Int.gcd a b : Int) := by
    rw [Int.gcd_mul_left, Int.natCast_mul]
    congr 1
    omega
  unfold lowD
  rw [e]
  by_cases h : 0 < b
  · rw [if_pos h, if_pos (Int.mul_pos t0 h), Int.mul_ediv_mul_of_pos _ _ t0, Int.mul_ediv_mul_of_pos _ _ t0]
  · have h' : ¬ 0 < t * b := by
      have := Int.mul_neg_of_pos_of_neg t0 (by omega : b < 0)
      omega
    rw [if_neg h, if_neg h', ← Int.mul_neg, ← Int.mul_neg, Int.mul_ediv_mul_of_pos _ _ t0, Int.mul_ediv_mul_of_pos _ _ t0]
section
variable {Ex : ExW} {P : EndsD} {cs : CsL} {o0 o2 o3 o4 o5 o6 o7 o8 o9 o10 o11 o12 o13 o14 : Option D}
theorem law_tail (A : DeckAt 0 1 cs) (q : ∀ cs2, DeckAt 0 1 cs2 → P.nx [o0, some (.loc 0), o2, o3, o4, o5, o6, o7, o8, o9, o10, o11, o12, o13, o14] cs2) : t_law_tail Ex [o0, some (.loc 0), o2, o3, o4, o5, o6, o7, o8, o9, o10, o11, o12, o13, o14] cs P := by
  refine ⟨0, 1, rfl, A, fun a b cs1 h1 A1 S1 => ⟨0, 1, rfl, A1, fun c d cs2 h2 A2 S2 => ⟨a, b, c, d, rfl, h1, h2, iftF rfl (q cs2 A2)⟩⟩⟩
theorem law_if {C_BadMany C_BadEffect f_plus f_times f_compared : Addr} {S_call : Addr → PD → Prop} {i j tm : Int} (A : DeckAt 0 1 cs) (i0 : -MM < i) (i1 : i < MM) (j0 : -MM < j) (j1 : j < MM) (t0 : 1 ≤ tm) (t1 : tm ≤ 9)
    (q : ∀ cs2 o6 o7, DeckAt 0 1 cs2 → P.nx [o0, some (.loc 0), o2, some (.int i), some (.int j), some (.int tm), o6, o7, o8, o9, o10, o11, o12, o13, o14] cs2) :
    t_law_if C_BadMany C_BadEffect f_plus f_times f_compared S_call Ex [o0, some (.loc 0), o2, some (.int i), some (.int j), some (.int tm), o6, o7, o8, o9, o10, o11, o12, o13, o14] cs P := by
  refine e_eqI (ift (fun h => ?_) (fun h => ?_))
  · have hj : j ≠ 0 := by simpa using h
    refine ⟨i, j, rfl, hj, by have := MMv; omega, ?_⟩
    refine ⟨_, _, rfl, low_ok i0 i1 j0 j1 hj ?_⟩
    refine ⟨rfl, rfl, _, _, rfl, low_ok i0 i1 j0 j1 hj ?_⟩
    refine ⟨_, _, rfl, low_ok (by decide) (by decide) j0 j1 hj ?_⟩
    rw [low_zero' hj]
    refine ⟨ls 3, ls 2, ls 3, ?_⟩
    refine ⟨_, _, 3 + (3 + (3 + 0)) + 1, rfl, .lst (lst_cell get_prev) lst_new (.cons (same_low _ _) (.cons (same_low _ _) (.cons (same_two _ _) .nil))), by decide, iftF rfl ?_⟩
    have A2 : DeckAt 0 1 (cs ++ [Cell.lst [lowD i j, lowD i j, .tup [.int 0, .int 1]]] ++ [Cell.lst [lowD i j, lowD i j, .tup [.int 0, .int 1]]]) := (A.app _).app _
    refine ⟨⟨by decide, by decide, by decide⟩, ift (fun h1 => ?_) (fun _ => iftF rfl (q _ _ _ A2))⟩
    refine ⟨⟨by decide, by decide, by decide⟩, ift (fun h2 => ?_) (fun _ => iftF rfl (q _ _ _ A2))⟩
    have k1 : (if i < 0 then -i else i) < 10 ^ (11 : Int).toNat := by simpa using h1
    have k2 : (if j < 0 then -j else j) < 10 ^ (11 : Int).toNat := by simpa using h2
    have e11 : (10 : Int) ^ (11 : Int).toNat = 100000000000 := by decide
    rw [e11] at k1 k2
    have m9 : ∀ x : Int, (if x < 0 then -x else x) < 100000000000 → -MM < tm * x ∧ tm * x < MM := fun x hx => by
      have := MMv
      have b1 : -100000000000 < x ∧ x < 100000000000 := by split at hx <;> omega
      have e : tm = 1 ∨ tm = 2 ∨ tm = 3 ∨ tm = 4 ∨ tm = 5 ∨ tm = 6 ∨ tm = 7 ∨ tm = 8 ∨ tm = 9 := by omega
      rcases e with e | e | e | e | e | e | e | e | e <;> subst e <;> omega
    refine ⟨mulC ⟨by omega, by omega⟩, mulC ⟨by omega, by omega⟩, ?_⟩
    refine ⟨_, _, rfl, low_ok (m9 i k1).1 (m9 i k1).2 (m9 j k2).1 (m9 j k2).2 (Int.mul_ne_zero (by omega) hj) ?_⟩
    rw [low_scale (by omega) hj]
    exact ⟨_, _, 3, rfl, same_low _ _, by decide, iftF rfl (q _ _ _ A2)⟩
  · have hj : j = 0 := by simpa using h
    subst hj
    have s1 : shortB (.int i) = true := by simp only [shortB, Bool.and_eq_true, decide_eq_true_eq]; exact ⟨i0, i1⟩
    refine ⟨_, _, rfl, ⟨"int", rfl⟩, ⟨"int", rfl⟩, fun h => (by rw [s1] at h; cases h), fun _ _ => ?_, fun a b _ eb _ _ hb => (by cases eb; exact absurd rfl hb)⟩
    refine ⟨"many", by simp [List.lookup], ls 3, ?_⟩
    exact ⟨_, _, 1 + (1 + (1 + 0)) + 1, rfl, .tup (.cons (.str _) (.cons (.int _) (.cons (.bl _) .nil))), by decide, iftF rfl (q _ _ _ A)⟩
theorem law_round {C_BadMany C_BadEffect f_plus f_times f_compared : Addr} {S_call : Addr → PD → Prop} (A : DeckAt 0 1 cs)
    (q : ∀ cs2 o3 o4 o5 o6 o7, DeckAt 0 1 cs2 → P.nx [o0, some (.loc 0), o2, o3, o4, o5, o6, o7, o8, o9, o10, o11, o12, o13, o14] cs2) :
    t_law_round C_BadMany C_BadEffect f_plus f_times f_compared S_call Ex [o0, some (.loc 0), o2, o3, o4, o5, o6, o7, o8, o9, o10, o11, o12, o13, o14] cs P := by
  refine ⟨0, 1, rfl, A, fun i cs1 i0 i1 A1 S1 => ⟨0, 1, rfl, A1, fun j cs2 j0 j1 A2 S2 => ⟨ls 2, rfl, 0, 1, 9, rfl, A2, by decide, by decide, fun r cs3 r0 r1 A3 S3 => ?_⟩⟩⟩
  exact law_if (C_BadEffect := C_BadEffect) (f_plus := f_plus) (f_times := f_times) (f_compared := f_compared) (S_call := S_call) A3 i0 i1 j0 j1 (by omega) (by omega) fun cs4 o6 o7 A4 => law_tail A4 fun cs5 A5 => q cs5 _ _ _ _ _ A5
end

end K01


namespace K01
open PySem PySem.Spec PyProof.Rows L2 Sim
open Kit0 LamX
def t_law_calls (C_BadMany C_BadEffect f_plus f_times f_compared : Addr) (S_call : Addr → PD → Prop) : TSD := sSeq (sSet 10 (dBin rAdd (dVar 10) (dLst (aCons (dTried "told" (lawHs C_BadMany C_BadEffect) (dCallL 14 S_call (aCons (dVar 12) (aCons (dVar 13) aNil)))) (aCons (dTried "told" (lawHs C_BadMany C_BadEffect) (dCallL 14 S_call (aCons (dVar 11) (aCons (dVar 13) aNil)))) (aCons (dTried "told" (lawHs C_BadMany C_BadEffect) (dCallLK 14 0 2 [1, 0] S_call (aCons (dVar 11) (aCons (dVar 12) aNil)))) aNil))))))
 (sSet 6 (dBin rAdd (dVar 6) (dLst (aCons (dTup (aCons (dC (.str "effect")) (aCons (dVar 12) (aCons (dC (.bl true)) aNil)))) (aCons (dTup (aCons (dC (.str "effect")) (aCons (dVar 13) (aCons (dC (.bl true)) aNil)))) (aCons (dTup (aCons (dC (.str "effect")) (aCons (dVar 12) (aCons (dC (.bl true)) aNil)))) aNil))))))
def t_law_last : TSD := sRet (dAndV (dCall p__law_same (aCons (dVar 10) (aCons (dVar 6) aNil))) (dCall p__law_are_names_right (aCons (dVar 1) aNil)))

theorem nn_ok {x : D} (h : x ∈ NN) : shortB x = false ∧ (∀ cs, known x cs) ∧ ∃ n, n ≤ 10 ∧ ∀ cs, SameD cs n x x := by
  simp only [NN, List.mem_cons, List.not_mem_nil, or_false] at h
  rcases h with e | e | e | e | e | e | e | e | e | e | e <;> subst e
  · exact ⟨rfl, fun _ => ⟨"NoneType", rfl⟩, 1, by decide, fun _ => .non⟩
  · exact ⟨rfl, fun _ => ⟨"bool", rfl⟩, 1, by decide, fun _ => .bl _⟩
  · exact ⟨rfl, fun _ => ⟨"bool", rfl⟩, 1, by decide, fun _ => .bl _⟩
  · exact ⟨rfl, fun _ => ⟨"str", rfl⟩, 1, by decide, fun _ => .str _⟩
  · exact ⟨rfl, fun _ => ⟨"tuple", rfl⟩, 1 + 0 + 1, by decide, fun _ => .tup (.cons (.int _) .nil)⟩
  · exact ⟨rfl, fun _ => ⟨"list", rfl⟩, 1 + 0 + 1, by decide, fun _ => .lst rfl rfl (.cons (.int _) .nil)⟩
  · exact ⟨by decide, fun _ => ⟨"int", rfl⟩, 1, by decide, fun _ => .int _⟩
  · exact ⟨by decide, fun _ => ⟨"int", rfl⟩, 1, by decide, fun _ => .int _⟩
  · exact ⟨by decide, fun _ => ⟨"int", rfl⟩, 1, by decide, fun _ => .int _⟩
  · exact ⟨rfl, fun _ => ⟨"dict", rfl⟩, 1, by decide, fun _ => .dic rfl rfl .nil (fun _ h => by cases h)⟩
  · exact ⟨rfl, fun _ => ⟨"tuple", rfl⟩, 0 + 1, by decide, fun _ => .tup .nil⟩
theorem two_is {x y : D} {cs : CsL} (h1 : known x cs) (h2 : known y cs) : FracOk (.tup [x, y]) cs := ⟨⟨"tuple", rfl⟩, fun xs e => by
  cases e
  refine ⟨by show 2 ≤ 1000; decide, fun z hz => ?_⟩
  simp only [List.mem_cons, List.not_mem_nil, or_false] at hz
  rcases hz with e | e <;> subst e
  · exact h1
  · exact h2⟩
theorem k_int {i : Int} {cs : CsL} : known (.int i) cs := ⟨"int", rfl⟩
theorem oth_ok {x : D} {cs : CsL} (h : known x cs) (hn : ∀ xs, x ≠ .tup xs) : FracOk x cs := ⟨h, fun xs e => absurd e (hn xs)⟩
theorem nf_ok {a b : Int} {x : D} (hf : fracB (.tup [.int a, .int b]) = true) (h : x ∈ NF a b) : fracB x = false ∧ (∀ cs, FracOk x cs) ∧ ∃ n, n ≤ 10 ∧ ∀ cs, SameD cs n x x := by
  obtain ⟨a0, a1, b0, b1, hg⟩ := frac_facts hf
  have mm := MMv
  simp only [NF, List.mem_cons, List.not_mem_nil, or_false] at h
  rcases h with e | e | e | e | e | e | e | e | e | e | e | e | e | e | e | e | e | e <;> subst e
  · exact ⟨rfl, fun _ => oth_ok ⟨"NoneType", rfl⟩ (by simp), 1, by decide, fun _ => .non⟩
  · exact ⟨rfl, fun _ => oth_ok k_int (by simp), 1, by decide, fun _ => .int _⟩
  · exact ⟨by simp [fracB], fun _ => two_is k_int k_int, 3, by decide, fun _ => same_two _ _⟩
  · refine ⟨?_, fun _ => two_is k_int k_int, 3, by decide, fun _ => same_two _ _⟩
    simp only [fracB, Bool.and_eq_false_iff, decide_eq_false_iff_not]
    right; right; left; omega
  · exact ⟨rfl, fun _ => oth_ok ⟨"list", rfl⟩ (by simp), 1 + (1 + 0) + 1, by decide, fun _ => .lst rfl rfl (.cons (.int _) (.cons (.int _) .nil))⟩
  · refine ⟨rfl, fun _ => ⟨⟨"tuple", rfl⟩, fun xs e => ?_⟩, 1 + 0 + 1, by decide, fun _ => .tup (.cons (.int _) .nil)⟩
    cases e
    exact ⟨by show 1 ≤ 1000; decide, fun z hz => by rw [List.mem_singleton.mp hz]; exact k_int⟩
  · refine ⟨rfl, fun _ => ⟨⟨"tuple", rfl⟩, fun xs e => ?_⟩, 1 + (1 + (1 + 0)) + 1, by decide, fun _ => .tup (.cons (.int _) (.cons (.int _) (.cons (.int _) .nil)))⟩
    cases e
    refine ⟨by show 3 ≤ 1000; decide, fun z hz => ?_⟩
    simp only [List.mem_cons, List.not_mem_nil, or_false] at hz
    rcases hz with e | e | e <;> subst e <;> exact k_int
  · refine ⟨?_, fun _ => two_is k_int k_int, 3, by decide, fun _ => same_two _ _⟩
    simp only [fracB, Bool.and_eq_false_iff, decide_eq_false_iff_not]
    right; right; right
    intro h1
    have e : Int.gcd (2 * a + 2) (2 * b) = 2 * Int.gcd (a + 1) b := by
      rw [show 2 * a + 2 = 2 * (a + 1) by omega, Int.gcd_mul_left]
      rfl
    omega
  · exact ⟨by decide, fun _ => two_is k_int k_int, 3, by decide, fun _ => same_two _ _⟩
  · exact ⟨rfl, fun _ => two_is ⟨"str", rfl⟩ k_int, 1 + (1 + 0) + 1, by decide, fun _ => .tup (.cons (.str _) (.cons (.int _) .nil))⟩
  · exact ⟨rfl, fun _ => oth_ok ⟨"str", rfl⟩ (by simp), 1, by decide, fun _ => .str _⟩
  · exact ⟨by decide, fun _ => two_is k_int k_int, 3, by decide, fun _ => same_two _ _⟩
  · exact ⟨by decide, fun _ => two_is k_int k_int, 3, by decide, fun _ => same_two _ _⟩
  · exact ⟨by decide, fun _ => two_is k_int k_int, 3, by decide, fun _ => same_two _ _⟩
  · exact ⟨rfl, fun _ => two_is ⟨"bool", rfl⟩ k_int, 1 + (1 + 0) + 1, by decide, fun _ => .tup (.cons (.bl _) (.cons (.int _) .nil))⟩
  · exact ⟨rfl, fun _ => two_is k_int ⟨"bool", rfl⟩, 1 + (1 + 0) + 1, by decide, fun _ => .tup (.cons (.int _) (.cons (.bl _) .nil))⟩
  · exact ⟨rfl, fun _ => two_is k_int ⟨"NoneType", rfl⟩, 1 + (1 + 0) + 1, by decide, fun _ => .tup (.cons (.int _) (.cons .non .nil))⟩
  · exact ⟨rfl, fun _ => two_is ⟨"tuple", rfl⟩ k_int, 3 + (1 + 0) + 1, by decide, fun _ => .tup (.cons (same_two _ _) (.cons (.int _) .nil))⟩

end K01


namespace K01
open PySem PySem.Spec PyProof.Rows L2 Sim
open Kit0 LamX

def SC (C f1 f2 f3 : Addr) : Addr → PD → Prop := fun f p => (f = f1 ∧ p = p_plus C) ∨ (f = f2 ∧ p = p_times C) ∨ (f = f3 ∧ p = p_compared C)
theorem two_bad1 {C f1 f2 f3 f : Addr} {p : PD} {d e : D} {cs : CsL} {P : DK} {Ex : ExW} (h : SC C f1 f2 f3 f p) (h1 : FracOk d cs) (h2 : FracOk e cs) (hd : fracB d = false) (q : Ex C d cs) : p [d, e] cs P Ex := by
  rcases h with ⟨_, rfl⟩ | ⟨_, rfl⟩ | ⟨_, rfl⟩
  · exact ⟨d, e, rfl, h1, h2, fun _ => q, fun h => (by rw [hd] at h; cases h), fun _ _ _ _ _ _ h => (by rw [hd] at h; cases h)⟩
  · exact ⟨d, e, rfl, h1, h2, fun _ => q, fun h => (by rw [hd] at h; cases h), fun _ _ _ _ _ _ h => (by rw [hd] at h; cases h)⟩
  · exact ⟨d, e, rfl, h1, h2, fun _ => q, fun h => (by rw [hd] at h; cases h), fun _ _ _ _ _ _ h => (by rw [hd] at h; cases h)⟩
theorem two_bad2 {C f1 f2 f3 f : Addr} {p : PD} {d e : D} {cs : CsL} {P : DK} {Ex : ExW} (h : SC C f1 f2 f3 f p) (h1 : FracOk d cs) (h2 : FracOk e cs) (hd : fracB d = true) (he : fracB e = false) (q : Ex C e cs) : p [d, e] cs P Ex := by
  rcases h with ⟨_, rfl⟩ | ⟨_, rfl⟩ | ⟨_, rfl⟩
  · exact ⟨d, e, rfl, h1, h2, fun h => (by rw [hd] at h; cases h), fun _ _ => q, fun _ _ _ _ _ _ _ h => (by rw [he] at h; cases h)⟩
  · exact ⟨d, e, rfl, h1, h2, fun h => (by rw [hd] at h; cases h), fun _ _ => q, fun _ _ _ _ _ _ _ h => (by rw [he] at h; cases h)⟩
  · exact ⟨d, e, rfl, h1, h2, fun h => (by rw [hd] at h; cases h), fun _ _ => q, fun _ _ _ _ _ _ _ h => (by rw [he] at h; cases h)⟩
theorem lk_effect {a b : Addr} (h : a ≠ b) : (lawHs a b).lookup b = some "effect" := by
  have e : (b == a) = false := by simpa using h.symm
  simp [lawHs, List.lookup, e]
theorem lk_many {a b : Addr} : (lawHs a b).lookup a = some "many" := by simp [lawHs, List.lookup]
/-- what is told of a refusal -/
abbrev tell (w : Str) (x : D) : D := .tup [.str w, x, .bl true]
theorem same_tell {x : D} {n : Nat} (w : Str) (h : ∀ cs, SameD cs n x x) : ∀ cs, SameD cs (1 + (n + (1 + 0)) + 1) (tell w x) (tell w x) := fun cs => .tup (.cons (.str _) (.cons (h cs) (.cons (.bl _) .nil)))
section
variable {Ex : ExW} {P : EndsD} {cs : CsL} {o0 o2 o3 o4 o5 o6 o7 o8 o9 o10 o11 o12 o13 o14 : Option D} {CM CE f1 f2 f3 : Addr}
theorem law_calls {hn dn : Nat} {L : List D} {f : Addr} {p : PD} {x y z : D} (ne : CM ≠ CE) (hS : SC CE f1 f2 f3 f p) (hx : ∀ cs, FracOk x cs) (hx1 : fracB x = true) (hy : ∀ cs, FracOk y cs) (hy0 : fracB y = false) (hz : ∀ cs, FracOk z cs) (hz0 : fracB z = false)
    (A : DeckAt 0 1 cs) (hh : cs[hn]? = some (.lst L)) (hd : cs[dn]? = some (.lst L)) (hl : L.length ≤ 1000)
    (q : ∀ cs2 hn2 dn2, DeckAt 0 1 cs2 → cs2[hn2]? = some (.lst (L ++ [tell "effect" y, tell "effect" z, tell "effect" y])) → cs2[dn2]? = some (.lst (L ++ [tell "effect" y, tell "effect" z, tell "effect" y])) →
      P.nx [o0, some (.loc 0), o2, o3, o4, o5, some (.loc dn2), o7, o8, o9, some (.loc hn2), some x, some y, some z, some (.fn f)] cs2) :
    t_law_calls CM CE f1 f2 f3 (SC CE f1 f2 f3) Ex [o0, some (.loc 0), o2, o3, o4, o5, some (.loc dn), o7, o8, o9, some (.loc hn), some x, some y, some z, some (.fn f)] cs P := by
  have szl : 2000 ≤ sizeLine := by rw [sizeLine_eq]; decide
  refine ⟨f, p, rfl, hS, two_bad1 hS (hy _) (hz _) hy0 ⟨"effect", lk_effect ne, ?_⟩⟩
  refine ⟨f, p, rfl, hS, two_bad2 hS (hx _) (hz _) hx1 hz0 ⟨"effect", lk_effect ne, ?_⟩⟩
  refine ⟨f, p, rfl, hS, rfl, two_bad1 (d := y) (e := x) hS (hy _) (hx _) hy0 ⟨"effect", lk_effect ne, ?_⟩⟩
  refine ⟨ls 3, ?_⟩
  refine add_loc (lstOf_app (lst_cell hh)) lst_new (by show L.length + 3 ≤ sizeLine; omega) ?_
  refine ⟨ls 3, ls 3, ls 3, ls 3, ?_⟩
  refine add_loc (lstOf_app (lstOf_app (lstOf_app (lst_cell hd)))) lst_new (by show L.length + 3 ≤ sizeLine; omega) ?_
  refine q _ _ _ ((((A.app _).app _).app _).app _) ?_ get_last
  rw [List.getElem?_append_left (by simp only [List.length_append, List.length_singleton]; omega), List.getElem?_append_left (by simp only [List.length_append, List.length_singleton]; omega)]
  exact get_last
end

end K01


namespace K01
open PySem PySem.Spec PyProof.Rows L2 Sim
open Kit0 LamX

theorem low_bad1 {X1 X2 : Prop} {x y : D} {cs : CsL} {R : Int → Int → Prop} (h1 : known x cs) (h2 : known y cs) (hx : shortB x = false) (q : X1) :
    known x cs ∧ known y cs ∧ (shortB x = false → X1) ∧ (shortB x = true → (shortB y = false ∨ y = .int 0) → X2) ∧ (∀ a b : Int, x = .int a → y = .int b → shortB x = true → shortB y = true → b ≠ 0 → R a b) :=
  ⟨h1, h2, fun _ => q, fun h => (by rw [hx] at h; cases h), fun _ _ _ _ h => (by rw [hx] at h; cases h)⟩
theorem low_bad2 {X1 X2 : Prop} {x y : D} {cs : CsL} {R : Int → Int → Prop} (h1 : known x cs) (h2 : known y cs) (hx : shortB x = true) (hy : shortB y = false) (q : X2) :
    known x cs ∧ known y cs ∧ (shortB x = false → X1) ∧ (shortB x = true → (shortB y = false ∨ y = .int 0) → X2) ∧ (∀ a b : Int, x = .int a → y = .int b → shortB x = true → shortB y = true → b ≠ 0 → R a b) :=
  ⟨h1, h2, fun h => (by rw [hx] at h; cases h), fun _ _ => q, fun _ _ _ _ _ h => (by rw [hy] at h; cases h)⟩
section
variable {Ex : ExW} {P : EndsD} {cs : CsL} {o0 o2 o3 o4 o5 o6 o7 o8 o9 o10 o11 o12 o13 o14 : Option D} {CM CE f1 f2 f3 : Addr}
theorem law_last {hn dn : Nat} {L : List D} {n : Nat} (A : DeckAt 0 1 cs) (hh : cs[hn]? = some (.lst L)) (hd : cs[dn]? = some (.lst L)) (hs : ∀ cs, SameL cs n L L) (hn1 : n ≤ 1000) (q : ∀ cs2, P.rt (.bl true) cs2) :
    t_law_last Ex [o0, some (.loc 0), o2, o3, o4, o5, some (.loc dn), o7, o8, o9, some (.loc hn), o11, o12, o13, o14] cs P := by
  refine ⟨_, _, n + 1, rfl, .lst (lst_cell hh) (lst_cell hd) (hs _), by omega, ?_⟩
  exact ⟨0, 1, rfl, A, fun cs2 _ _ => q cs2⟩
theorem law_end (ne : CM ≠ CE) (A : DeckAt 0 1 cs) (q : ∀ cs2, P.rt (.bl true) cs2) :
    t_law_end CM CE f1 f2 f3 (SC CE f1 f2 f3) Ex [o0, some (.loc 0), o2, o3, o4, o5, o6, o7, o8, o9, o10, o11, o12, o13, o14] cs P := by
  refine ⟨0, 1, rfl, A, fun odd cs1 ho A1 S1 => ⟨0, 1, rfl, A1, fun bad cs2 hb A2 S2 => ⟨ls 2, rfl, ?_⟩⟩⟩
  obtain ⟨o1s, ok, no, no10, so⟩ := nn_ok ho
  obtain ⟨b1s, bk, nb, nb10, sb⟩ := nn_ok hb
  refine ⟨_, _, rfl, low_bad1 (ok _) (bk _) o1s ⟨"many", lk_many, ?_⟩⟩
  refine ⟨_, _, rfl, low_bad2 k_int (bk _) (by decide) b1s ⟨"many", lk_many, ?_⟩⟩
  refine ⟨rfl, rfl, _, _, rfl, low_bad1 (ok _) k_int o1s ⟨"many", lk_many, ?_⟩⟩
  refine ⟨ls 3, ls 3, ls 3, ls 3, ls 3, ?_⟩
  have A3 : DeckAt 0 1 (cs2 ++ [Cell.lst [tell "many" odd, tell "many" bad, tell "many" odd]] ++ [Cell.lst [tell "many" odd, tell "many" bad, tell "many" odd]]) := (A2.app _).app _
  have m2 := A2.lt
  refine ⟨0, 1, rfl, A3, fun a b cs4 hf A4 S4 => ⟨0, 1, rfl, A4, fun a1 b1 wrong cs5 hf1 hw A5 S5 => ⟨0, 1, rfl, A5, fun a2 b2 worse cs6 hf2 hv A6 S6 => ⟨ls 3, rfl, ?_⟩⟩⟩⟩
  obtain ⟨w0, wk, nw, nw10, sw⟩ := nf_ok hf1 hw
  obtain ⟨v0, vk, nv, nv10, sv⟩ := nf_ok hf2 hv
  have S : SameBut 0 1 (cs2 ++ [Cell.lst [tell "many" odd, tell "many" bad, tell "many" odd]] ++ [Cell.lst [tell "many" odd, tell "many" bad, tell "many" odd]]) cs6 := (S4.trans S5).trans S6
  have hh : cs6[cs2.length]? = some (.lst [tell "many" odd, tell "many" bad, tell "many" odd]) := by
    rw [S.2 _ (by omega) (by omega)]
    exact get_prev
  have hd : cs6[(cs2 ++ [Cell.lst [tell "many" odd, tell "many" bad, tell "many" odd]]).length]? = some (.lst [tell "many" odd, tell "many" bad, tell "many" odd]) := by
    rw [S.2 _ (by rw [List.length_append]; omega) (by rw [List.length_append]; omega)]
    exact get_last
  have sL : ∀ cs, SameL cs ((1 + (no + (1 + 0)) + 1) + ((1 + (nb + (1 + 0)) + 1) + ((1 + (no + (1 + 0)) + 1) + 0))) [tell "many" odd, tell "many" bad, tell "many" odd] [tell "many" odd, tell "many" bad, tell "many" odd] := fun cs =>
    .cons (same_tell _ so cs) (.cons (same_tell _ sb cs) (.cons (same_tell _ so cs) .nil))
  refine ⟨ls 3, ?_⟩
  refine forD_of (fun rest sl cs7 => (∀ x ∈ rest, ∃ f p, x = .fn f ∧ SC CE f1 f2 f3 f p) ∧ DeckAt 0 1 cs7 ∧ ∃ (hn dn : Nat) (L : List D) (n : Nat) (o14 : Option D), sl = [o0, some (.loc 0), o2, o3, o4, o5, some (.loc dn), o7, some odd, some bad, some (.loc hn), some (.tup [.int a, .int b]), some wrong, some worse, o14] ∧
    cs7[hn]? = some (.lst L) ∧ cs7[dn]? = some (.lst L) ∧ (∀ cs, SameL cs n L L) ∧ n + rest.length * 60 ≤ 900) ?_ ?_ ⟨?_, A6, cs2.length, _, _, _, o14, rfl, hh, hd, sL, by show _ + 3 * 60 ≤ 900; omega⟩
  · rintro x rest sl cs7 ⟨hx, A7, hn, dn, L, n, o14', rfl, h1, h2, h3, h4⟩
    obtain ⟨f, p, rfl, hS⟩ := hx x List.mem_cons_self
    have l1 := (h3 []).len.2
    rw [List.length_cons] at h4
    refine ⟨trivial, fun W hW => ?_⟩
    refine law_calls ne hS (fun _ => frac_ok) hf wk w0 vk v0 A7 h1 h2 (by omega) fun cs8 hn2 dn2 A8 h5 h6 => hW _ _ ⟨fun y hy => hx y (List.mem_cons_of_mem _ hy), A8, hn2, dn2, _, _, _, rfl, h5, h6, fun cs => (h3 cs).app (.cons (same_tell _ sw cs) (.cons (same_tell _ sv cs) (.cons (same_tell _ sw cs) .nil))), by omega⟩
  · rintro sl cs7 ⟨_, A7, hn, dn, L, n, o14', rfl, h1, h2, h3, h4⟩
    refine ⟨trivial, ?_⟩
    rw [List.length_nil] at h4
    exact law_last A7 h1 h2 h3 (by omega) q
  · intro x hx
    simp only [List.mem_cons, List.not_mem_nil, or_false] at hx
    rcases hx with e | e | e <;> subst e
    · exact ⟨_, _, rfl, .inl ⟨rfl, rfl⟩⟩
    · exact ⟨_, _, rfl, .inr (.inl ⟨rfl, rfl⟩)⟩
    · exact ⟨_, _, rfl, .inr (.inr ⟨rfl, rfl⟩)⟩
end

theorem ok_law {G : Gx} {f c P C_BadMany C_BadEffect Y : Addr} {kV doc pm ct oc : Value} {an od : Option Addr} {osl : Array (Option Value)} (t : Mg G.mg) (lk : G.K.lookup f = some ⟨oc, od, .func (PySem.W.fnOf "law" "law" (defArgs s_law) (defBody s_law) (defScope s_law) .none kV doc pm an (.ref c) ct), osl⟩) (hcd : PySem.W.codeIn G.K (.ref c) "law" = true)
    (hT : Has G "_law_tried" s__law_tried) (TB : TabB G.base G.mg c P) (eT : G.T = [(P, lamQ)]) (er : Errs G C_BadMany C_BadEffect Y) (h__law_deck : DefOk G 1 "_law_deck" "_law_deck" s__law_deck ["script"] p__law_deck) (h__law_no_number : DefOk G 3 "_law_no_number" "_law_no_number" s__law_no_number ["deck"] p__law_no_number) (h__law_fraction : DefOk G 4 "_law_fraction" "_law_fraction" s__law_fraction ["deck"] p__law_fraction) (h__law_no_fraction : DefOk G 5 "_law_no_fraction" "_law_no_fraction" s__law_no_fraction ["deck"] p__law_no_fraction) (h__law_same : DefOk G 1 "_law_same" "_law_same" s__law_same ["told", "due"] p__law_same) (h__law_are_names_right : DefOk G 3 "_law_are_names_right" "_law_are_names_right" s__law_are_names_right ["deck"] p__law_are_names_right) (h__law_drawn_number : DefOk G 3 "_law_drawn_number" "_law_drawn_number" s__law_drawn_number ["deck"] p__law_drawn_number) (h__law_draw : DefOk G 1 "_law_draw" "_law_draw" s__law_draw ["deck", "many"] p__law_draw) (h__law_lowest : DefOk G 1 "_law_lowest" "_law_lowest" s__law_lowest ["top", "bottom"] p__law_lowest) (h__law_are_sums_right : DefOk G 6 "_law_are_sums_right" "_law_are_sums_right" s__law_are_sums_right ["one", "other"] p__law_are_sums_right) (h_lowest : DefOk G 3 "lowest" "lowest" s_lowest ["number", "den"] (p_lowest C_BadMany)) (h_plus : DefOk G 5 "plus" "plus" s_plus ["one", "other"] (p_plus C_BadEffect)) (h_times : DefOk G 5 "times" "times" s_times ["one", "other"] (p_times C_BadEffect)) (h_compared : DefOk G 5 "compared" "compared" s_compared ["one", "other"] (p_compared C_BadEffect)) :
    FnOk G.P G.w G.K G.mg G.base (L2.CX G.P G.w) 21 f (PySem.W.fnOf "law" "law" (defArgs s_law) (defBody s_law) (defScope s_law) .none kV doc pm an (.ref c) ct) ["script"] (spD G.K G.T lawPD) := by
  obtain ⟨f_plus, _, m_plus, _⟩ := id h_plus
  obtain ⟨f_times, _, m_times, _⟩ := id h_times
  obtain ⟨f_compared, _, m_compared, _⟩ := id h_compared
  have hS : ∀ f p, SC C_BadEffect f_plus f_times f_compared f p → HeldOk G 5 ["one", "other"] f p := by
    rintro f p (⟨rfl, rfl⟩ | ⟨rfl, rfl⟩ | ⟨rfl, rfl⟩)
    · exact h_plus.held m_plus
    · exact h_times.held m_times
    · exact h_compared.held m_compared
  have hSK : ∀ f p, SC C_BadEffect f_plus f_times f_compared f p → HeldOkK G 5 ["one", "other"] 0 ["other", "one"] [1, 0] f p := by
    rintro f p (⟨rfl, rfl⟩ | ⟨rfl, rfl⟩ | ⟨rfl, rfl⟩)
    · exact h_plus.heldK m_plus fun _ _ F => kb_plus_0_other_one F
    · exact h_times.heldK m_times fun _ _ F => kb_times_0_other_one F
    · exact h_compared.heldK m_compared fun _ _ F => kb_compared_0_other_one F
  refine def_fn (N := lawN) lk hcd sc_law (fun ds cs P Ex h => by obtain ⟨ns, rfl, _⟩ := h; rfl) fun A outer s H E F m good => ⟨t_law C_BadMany C_BadEffect f_plus f_times f_compared (SC C_BadEffect f_plus f_times f_compared), law_dv t good hT TB eT er m_plus m_times m_compared _ hS hSK h__law_deck h__law_no_number h__law_fraction h__law_no_fraction h__law_same h__law_are_names_right h__law_drawn_number h__law_draw h__law_lowest h__law_are_sums_right h_lowest h_plus h_times h_compared, fun ds cs P Ex hd hb hp => ?_⟩
  obtain ⟨ns, rfl, h63, rfl, q⟩ := hp
  refine ⟨ns, rfl, h63, fun c1 c2 A0 => ?_⟩
  refine ⟨⟨by decide, by decide⟩, ?_⟩
  refine forD_of (fun rest sl cs => DeckAt 0 1 cs ∧ ∃ o2 o3 o4 o5 o6 o7, sl = [some (.lst (ns.map D.int)), some (.loc 0), o2, o3, o4, o5, o6, o7, none, none, none, none, none, none, none]) ?_ ?_ ⟨A0, none, none, none, none, none, none, rfl⟩
  · rintro x rest sl cs ⟨A1, o2, o3, o4, o5, o6, o7, rfl⟩
    refine ⟨trivial, fun W hW => ?_⟩
    exact law_round (C_BadEffect := C_BadEffect) (f_plus := f_plus) (f_times := f_times) (f_compared := f_compared) (S_call := SC C_BadEffect f_plus f_times f_compared) A1 fun cs2 o3' o4' o5' o6' o7' A2 => hW _ _ ⟨A2, _, _, _, _, _, _, rfl⟩
  · rintro sl cs ⟨A1, o2, o3, o4, o5, o6, o7, rfl⟩
    exact ⟨trivial, law_end er.ne A1 fun cs2 => ret_here (q cs2)⟩
end K01


namespace K01
open PySem PySem.Spec PyProof.Rows L2 Sim
open Kit0 LamX

theorem exm_b {K : PySem.W.Frag} {A C : Addr} {b : Bool} (h1 : PySem.W.subIn K (.ref C) (.type "BaseException") = some true) (hd : PySem.W.hasDictIn K C = true) (ht : PySem.W.typeIn K (.ref C) = some (.type "type")) (h4 : PySem.W.subIn K (.ref A) (.ref C) = some b) (e : (A == C) = b) : PySem.W.exmOne K (.ref A) (.ref C) = some (A == C) := by
  rw [e]
  exact PySem.W.exm_ref h1 hd ht h4
theorem kit_up {K : PySem.W.Frag} {C Y : Addr} (h : PySem.W.subIn K (.ref C) (.ref Y) = some true) (hd : PySem.W.hasDictIn K Y = true) (ht : PySem.W.typeIn K (.ref Y) = some (.type "type")) : PySem.W.kitOne K (.ref C) (.ref Y) = some true := by
  obtain ⟨cd, hc, _⟩ := PySem.W.any_some hd
  have e2 : ((PySem.W.clsIn K Y).isSome && PySem.W.typeIn K (.ref Y) == some (.type "type")) = true := by rw [hc, ht] <;> rfl
  unfold PySem.W.kitOne
  split
  · rfl
  · show (if ((PySem.W.clsIn K Y).isSome && PySem.W.typeIn K (.ref Y) == some (.type "type")) = true then PySem.W.subIn K (.ref C) (.ref Y) else none) = some true
    rw [if_pos e2]
    exact h

theorem all_mk {w : World} {K : PySem.W.Frag} {h : Heap} {mg : Str → Option Value} {fa : Addr} (X : K.In h) (G : h.Ns mainGlobals mg) (hfa : mg "law" = some (.ref fa)) (own : OwnTab K fa h)
    {od_is_whole an_is_whole : Option Addr} {sl_is_whole : Array (Option Value)} {oc_is_whole kV_is_whole dc_is_whole pm_is_whole cd_is_whole ct_is_whole : Value} {f_is_whole : Addr}
    {od_is_name an_is_name : Option Addr} {sl_is_name : Array (Option Value)} {oc_is_name kV_is_name dc_is_name pm_is_name cd_is_name ct_is_name : Value} {f_is_name : Addr}
    {od_is_short an_is_short : Option Addr} {sl_is_short : Array (Option Value)} {oc_is_short kV_is_short dc_is_short pm_is_short cd_is_short ct_is_short : Value} {f_is_short : Addr}
    {od_common an_common : Option Addr} {sl_common : Array (Option Value)} {oc_common kV_common dc_common pm_common cd_common ct_common : Value} {f_common : Addr}
    {od_low_f an_low_f : Option Addr} {sl_low_f : Array (Option Value)} {oc_low_f kV_low_f dc_low_f pm_low_f cd_low_f ct_low_f : Value} {f_low_f : Addr}
    {od_is_fraction an_is_fraction : Option Addr} {sl_is_fraction : Array (Option Value)} {oc_is_fraction kV_is_fraction dc_is_fraction pm_is_fraction cd_is_fraction ct_is_fraction : Value} {f_is_fraction : Addr}
    {od_plus_f an_plus_f : Option Addr} {sl_plus_f : Array (Option Value)} {oc_plus_f kV_plus_f dc_plus_f pm_plus_f cd_plus_f ct_plus_f : Value} {f_plus_f : Addr}
    {od_times_f an_times_f : Option Addr} {sl_times_f : Array (Option Value)} {oc_times_f kV_times_f dc_times_f pm_times_f cd_times_f ct_times_f : Value} {f_times_f : Addr}
    {od_compared_f an_compared_f : Option Addr} {sl_compared_f : Array (Option Value)} {oc_compared_f kV_compared_f dc_compared_f pm_compared_f cd_compared_f ct_compared_f : Value} {f_compared_f : Addr}
    {od_need_fractions an_need_fractions : Option Addr} {sl_need_fractions : Array (Option Value)} {oc_need_fractions kV_need_fractions dc_need_fractions pm_need_fractions cd_need_fractions ct_need_fractions : Value} {f_need_fractions : Addr}
    {od_lowest an_lowest : Option Addr} {sl_lowest : Array (Option Value)} {oc_lowest kV_lowest dc_lowest pm_lowest cd_lowest ct_lowest : Value} {f_lowest : Addr}
    {od_plus an_plus : Option Addr} {sl_plus : Array (Option Value)} {oc_plus kV_plus dc_plus pm_plus cd_plus ct_plus : Value} {f_plus : Addr}
    {od_times an_times : Option Addr} {sl_times : Array (Option Value)} {oc_times kV_times dc_times pm_times cd_times ct_times : Value} {f_times : Addr}
    {od_compared an_compared : Option Addr} {sl_compared : Array (Option Value)} {oc_compared kV_compared dc_compared pm_compared cd_compared ct_compared : Value} {f_compared : Addr}
    {od__law_deck an__law_deck : Option Addr} {sl__law_deck : Array (Option Value)} {oc__law_deck kV__law_deck dc__law_deck pm__law_deck cd__law_deck ct__law_deck : Value} {f__law_deck : Addr}
    {od__law_draw an__law_draw : Option Addr} {sl__law_draw : Array (Option Value)} {oc__law_draw kV__law_draw dc__law_draw pm__law_draw cd__law_draw ct__law_draw : Value} {f__law_draw : Addr}
    {od__law_pick an__law_pick : Option Addr} {sl__law_pick : Array (Option Value)} {oc__law_pick kV__law_pick dc__law_pick pm__law_pick cd__law_pick ct__law_pick : Value} {f__law_pick : Addr}
    {od__law_same an__law_same : Option Addr} {sl__law_same : Array (Option Value)} {oc__law_same kV__law_same dc__law_same pm__law_same cd__law_same ct__law_same : Value} {f__law_same : Addr}
    {od__law_is_name an__law_is_name : Option Addr} {sl__law_is_name : Array (Option Value)} {oc__law_is_name kV__law_is_name dc__law_is_name pm__law_is_name cd__law_is_name ct__law_is_name : Value} {f__law_is_name : Addr}
    {od__law_lowest an__law_lowest : Option Addr} {sl__law_lowest : Array (Option Value)} {oc__law_lowest kV__law_lowest dc__law_lowest pm__law_lowest cd__law_lowest ct__law_lowest : Value} {f__law_lowest : Addr}
    {od__law_drawn_number an__law_drawn_number : Option Addr} {sl__law_drawn_number : Array (Option Value)} {oc__law_drawn_number kV__law_drawn_number dc__law_drawn_number pm__law_drawn_number cd__law_drawn_number ct__law_drawn_number : Value} {f__law_drawn_number : Addr}
    {od__law_fraction an__law_fraction : Option Addr} {sl__law_fraction : Array (Option Value)} {oc__law_fraction kV__law_fraction dc__law_fraction pm__law_fraction cd__law_fraction ct__law_fraction : Value} {f__law_fraction : Addr}
    {od__law_no_number an__law_no_number : Option Addr} {sl__law_no_number : Array (Option Value)} {oc__law_no_number kV__law_no_number dc__law_no_number pm__law_no_number cd__law_no_number ct__law_no_number : Value} {f__law_no_number : Addr}
    {od__law_no_fraction an__law_no_fraction : Option Addr} {sl__law_no_fraction : Array (Option Value)} {oc__law_no_fraction kV__law_no_fraction dc__law_no_fraction pm__law_no_fraction cd__law_no_fraction ct__law_no_fraction : Value} {f__law_no_fraction : Addr}
    {od__law_tried an__law_tried : Option Addr} {sl__law_tried : Array (Option Value)} {oc__law_tried kV__law_tried dc__law_tried pm__law_tried cd__law_tried ct__law_tried : Value} {f__law_tried : Addr}
    {od__law_are_names_right an__law_are_names_right : Option Addr} {sl__law_are_names_right : Array (Option Value)} {oc__law_are_names_right kV__law_are_names_right dc__law_are_names_right pm__law_are_names_right cd__law_are_names_right ct__law_are_names_right : Value} {f__law_are_names_right : Addr}
    {od__law_are_sums_right an__law_are_sums_right : Option Addr} {sl__law_are_sums_right : Array (Option Value)} {oc__law_are_sums_right kV__law_are_sums_right dc__law_are_sums_right pm__law_are_sums_right cd__law_are_sums_right ct__law_are_sums_right : Value} {f__law_are_sums_right : Addr}
    {od_law an_law : Option Addr} {sl_law : Array (Option Value)} {oc_law kV_law dc_law pm_law ct_law : Value} {c4 P4 : Addr} {f_law : Addr}
    {t_MOST : Tok}
    {t_LETTERS : Tok}
    {t_SIGNS : Tok}
    {t_LONGEST_NAME : Tok}
    {t_PAIR : Tok}
    {Y fI cc cda : Addr} {ocI : Value} {odI : Option Addr} {docI pmI : Value} {anI : Option Addr} {ctI : Value} {oslI : Array (Option Value)} {ccl : Value} {cdd : Option Addr} {vsI : Array Value} {ccs : Array (Option Value)} {fileI : Str} {tfI : Tok} {clC : Value} {cldC : Option Addr} {cslC : Array (Option Value)}
    {C_BadMany : Addr} {nm_BadMany q_BadMany : Str} {N_BadMany : Addr} {bs_BadMany : List Value} {sn_BadMany : List Str} {sub_BadMany : List Value} {ab_BadMany : Bool} {col_BadMany : Option Bool} {dd_BadMany : Option Addr} {m0_BadMany m1_BadMany m2_BadMany m3_BadMany m5_BadMany : Option Value}
    {C_BadEffect : Addr} {nm_BadEffect q_BadEffect : Str} {N_BadEffect : Addr} {bs_BadEffect : List Value} {sn_BadEffect : List Str} {sub_BadEffect : List Value} {ab_BadEffect : Bool} {col_BadEffect : Option Bool} {dd_BadEffect : Option Addr} {m0_BadEffect m1_BadEffect m2_BadEffect m3_BadEffect m5_BadEffect : Option Value}
    {e4 : Value} {dd4 : Option Addr} {vs4 : Array Value} {sl4 : Array (Option Value)}
    (a_is_whole : PySem.W.nsIn K mainGlobals "is_whole" = some (some (.ref f_is_whole)))
    (l_is_whole : K.lookup f_is_whole = some ⟨oc_is_whole, od_is_whole, .func (PySem.W.fnOf "is_whole" "is_whole" (defArgs s_is_whole) (defBody s_is_whole) (defScope s_is_whole) .none kV_is_whole dc_is_whole pm_is_whole an_is_whole cd_is_whole ct_is_whole), sl_is_whole⟩)
    (c_is_whole : PySem.W.codeIn K cd_is_whole "is_whole" = true)
    (k_is_whole : PySem.W.keepIn K (.ref f_is_whole) = true)
    (a_is_name : PySem.W.nsIn K mainGlobals "is_name" = some (some (.ref f_is_name)))
    (l_is_name : K.lookup f_is_name = some ⟨oc_is_name, od_is_name, .func (PySem.W.fnOf "is_name" "is_name" (defArgs s_is_name) (defBody s_is_name) (defScope s_is_name) .none kV_is_name dc_is_name pm_is_name an_is_name cd_is_name ct_is_name), sl_is_name⟩)
    (c_is_name : PySem.W.codeIn K cd_is_name "is_name" = true)
    (k_is_name : PySem.W.keepIn K (.ref f_is_name) = true)
    (a_is_short : PySem.W.nsIn K mainGlobals "is_short" = some (some (.ref f_is_short)))
    (l_is_short : K.lookup f_is_short = some ⟨oc_is_short, od_is_short, .func (PySem.W.fnOf "is_short" "is_short" (defArgs s_is_short) (defBody s_is_short) (defScope s_is_short) .none kV_is_short dc_is_short pm_is_short an_is_short cd_is_short ct_is_short), sl_is_short⟩)
    (c_is_short : PySem.W.codeIn K cd_is_short "is_short" = true)
    (k_is_short : PySem.W.keepIn K (.ref f_is_short) = true)
    (a_common : PySem.W.nsIn K mainGlobals "common" = some (some (.ref f_common)))
    (l_common : K.lookup f_common = some ⟨oc_common, od_common, .func (PySem.W.fnOf "common" "common" (defArgs s_common) (defBody s_common) (defScope s_common) .none kV_common dc_common pm_common an_common cd_common ct_common), sl_common⟩)
    (c_common : PySem.W.codeIn K cd_common "common" = true)
    (k_common : PySem.W.keepIn K (.ref f_common) = true)
    (a_low_f : PySem.W.nsIn K mainGlobals "low_f" = some (some (.ref f_low_f)))
    (l_low_f : K.lookup f_low_f = some ⟨oc_low_f, od_low_f, .func (PySem.W.fnOf "low_f" "low_f" (defArgs s_low_f) (defBody s_low_f) (defScope s_low_f) .none kV_low_f dc_low_f pm_low_f an_low_f cd_low_f ct_low_f), sl_low_f⟩)
    (c_low_f : PySem.W.codeIn K cd_low_f "low_f" = true)
    (k_low_f : PySem.W.keepIn K (.ref f_low_f) = true)
    (a_is_fraction : PySem.W.nsIn K mainGlobals "is_fraction" = some (some (.ref f_is_fraction)))
    (l_is_fraction : K.lookup f_is_fraction = some ⟨oc_is_fraction, od_is_fraction, .func (PySem.W.fnOf "is_fraction" "is_fraction" (defArgs s_is_fraction) (defBody s_is_fraction) (defScope s_is_fraction) .none kV_is_fraction dc_is_fraction pm_is_fraction an_is_fraction cd_is_fraction ct_is_fraction), sl_is_fraction⟩)
    (c_is_fraction : PySem.W.codeIn K cd_is_fraction "is_fraction" = true)
    (k_is_fraction : PySem.W.keepIn K (.ref f_is_fraction) = true)
    (a_plus_f : PySem.W.nsIn K mainGlobals "plus_f" = some (some (.ref f_plus_f)))
    (l_plus_f : K.lookup f_plus_f = some ⟨oc_plus_f, od_plus_f, .func (PySem.W.fnOf "plus_f" "plus_f" (defArgs s_plus_f) (defBody s_plus_f) (defScope s_plus_f) .none kV_plus_f dc_plus_f pm_plus_f an_plus_f cd_plus_f ct_plus_f), sl_plus_f⟩)
    (c_plus_f : PySem.W.codeIn K cd_plus_f "plus_f" = true)
    (k_plus_f : PySem.W.keepIn K (.ref f_plus_f) = true)
    (a_times_f : PySem.W.nsIn K mainGlobals "times_f" = some (some (.ref f_times_f)))
    (l_times_f : K.lookup f_times_f = some ⟨oc_times_f, od_times_f, .func (PySem.W.fnOf "times_f" "times_f" (defArgs s_times_f) (defBody s_times_f) (defScope s_times_f) .none kV_times_f dc_times_f pm_times_f an_times_f cd_times_f ct_times_f), sl_times_f⟩)
    (c_times_f : PySem.W.codeIn K cd_times_f "times_f" = true)
    (k_times_f : PySem.W.keepIn K (.ref f_times_f) = true)
    (a_compared_f : PySem.W.nsIn K mainGlobals "compared_f" = some (some (.ref f_compared_f)))
    (l_compared_f : K.lookup f_compared_f = some ⟨oc_compared_f, od_compared_f, .func (PySem.W.fnOf "compared_f" "compared_f" (defArgs s_compared_f) (defBody s_compared_f) (defScope s_compared_f) .none kV_compared_f dc_compared_f pm_compared_f an_compared_f cd_compared_f ct_compared_f), sl_compared_f⟩)
    (c_compared_f : PySem.W.codeIn K cd_compared_f "compared_f" = true)
    (k_compared_f : PySem.W.keepIn K (.ref f_compared_f) = true)
    (a_need_fractions : PySem.W.nsIn K mainGlobals "need_fractions" = some (some (.ref f_need_fractions)))
    (l_need_fractions : K.lookup f_need_fractions = some ⟨oc_need_fractions, od_need_fractions, .func (PySem.W.fnOf "need_fractions" "need_fractions" (defArgs s_need_fractions) (defBody s_need_fractions) (defScope s_need_fractions) .none kV_need_fractions dc_need_fractions pm_need_fractions an_need_fractions cd_need_fractions ct_need_fractions), sl_need_fractions⟩)
    (c_need_fractions : PySem.W.codeIn K cd_need_fractions "need_fractions" = true)
    (k_need_fractions : PySem.W.keepIn K (.ref f_need_fractions) = true)
    (a_lowest : PySem.W.nsIn K mainGlobals "lowest" = some (some (.ref f_lowest)))
    (l_lowest : K.lookup f_lowest = some ⟨oc_lowest, od_lowest, .func (PySem.W.fnOf "lowest" "lowest" (defArgs s_lowest) (defBody s_lowest) (defScope s_lowest) .none kV_lowest dc_lowest pm_lowest an_lowest cd_lowest ct_lowest), sl_lowest⟩)
    (c_lowest : PySem.W.codeIn K cd_lowest "lowest" = true)
    (k_lowest : PySem.W.keepIn K (.ref f_lowest) = true)
    (a_plus : PySem.W.nsIn K mainGlobals "plus" = some (some (.ref f_plus)))
    (l_plus : K.lookup f_plus = some ⟨oc_plus, od_plus, .func (PySem.W.fnOf "plus" "plus" (defArgs s_plus) (defBody s_plus) (defScope s_plus) .none kV_plus dc_plus pm_plus an_plus cd_plus ct_plus), sl_plus⟩)
    (c_plus : PySem.W.codeIn K cd_plus "plus" = true)
    (k_plus : PySem.W.keepIn K (.ref f_plus) = true)
    (a_times : PySem.W.nsIn K mainGlobals "times" = some (some (.ref f_times)))
    (l_times : K.lookup f_times = some ⟨oc_times, od_times, .func (PySem.W.fnOf "times" "times" (defArgs s_times) (defBody s_times) (defScope s_times) .none kV_times dc_times pm_times an_times cd_times ct_times), sl_times⟩)
    (c_times : PySem.W.codeIn K cd_times "times" = true)
    (k_times : PySem.W.keepIn K (.ref f_times) = true)
    (a_compared : PySem.W.nsIn K mainGlobals "compared" = some (some (.ref f_compared)))
    (l_compared : K.lookup f_compared = some ⟨oc_compared, od_compared, .func (PySem.W.fnOf "compared" "compared" (defArgs s_compared) (defBody s_compared) (defScope s_compared) .none kV_compared dc_compared pm_compared an_compared cd_compared ct_compared), sl_compared⟩)
    (c_compared : PySem.W.codeIn K cd_compared "compared" = true)
    (k_compared : PySem.W.keepIn K (.ref f_compared) = true)
    (a__law_deck : PySem.W.nsIn K mainGlobals "_law_deck" = some (some (.ref f__law_deck)))
    (l__law_deck : K.lookup f__law_deck = some ⟨oc__law_deck, od__law_deck, .func (PySem.W.fnOf "_law_deck" "_law_deck" (defArgs s__law_deck) (defBody s__law_deck) (defScope s__law_deck) .none kV__law_deck dc__law_deck pm__law_deck an__law_deck cd__law_deck ct__law_deck), sl__law_deck⟩)
    (c__law_deck : PySem.W.codeIn K cd__law_deck "_law_deck" = true)
    (k__law_deck : PySem.W.keepIn K (.ref f__law_deck) = true)
    (a__law_draw : PySem.W.nsIn K mainGlobals "_law_draw" = some (some (.ref f__law_draw)))
    (l__law_draw : K.lookup f__law_draw = some ⟨oc__law_draw, od__law_draw, .func (PySem.W.fnOf "_law_draw" "_law_draw" (defArgs s__law_draw) (defBody s__law_draw) (defScope s__law_draw) .none kV__law_draw dc__law_draw pm__law_draw an__law_draw cd__law_draw ct__law_draw), sl__law_draw⟩)
    (c__law_draw : PySem.W.codeIn K cd__law_draw "_law_draw" = true)
    (k__law_draw : PySem.W.keepIn K (.ref f__law_draw) = true)
    (a__law_pick : PySem.W.nsIn K mainGlobals "_law_pick" = some (some (.ref f__law_pick)))
    (l__law_pick : K.lookup f__law_pick = some ⟨oc__law_pick, od__law_pick, .func (PySem.W.fnOf "_law_pick" "_law_pick" (defArgs s__law_pick) (defBody s__law_pick) (defScope s__law_pick) .none kV__law_pick dc__law_pick pm__law_pick an__law_pick cd__law_pick ct__law_pick), sl__law_pick⟩)
    (c__law_pick : PySem.W.codeIn K cd__law_pick "_law_pick" = true)
    (k__law_pick : PySem.W.keepIn K (.ref f__law_pick) = true)
    (a__law_same : PySem.W.nsIn K mainGlobals "_law_same" = some (some (.ref f__law_same)))
    (l__law_same : K.lookup f__law_same = some ⟨oc__law_same, od__law_same, .func (PySem.W.fnOf "_law_same" "_law_same" (defArgs s__law_same) (defBody s__law_same) (defScope s__law_same) .none kV__law_same dc__law_same pm__law_same an__law_same cd__law_same ct__law_same), sl__law_same⟩)
    (c__law_same : PySem.W.codeIn K cd__law_same "_law_same" = true)
    (k__law_same : PySem.W.keepIn K (.ref f__law_same) = true)
    (a__law_is_name : PySem.W.nsIn K mainGlobals "_law_is_name" = some (some (.ref f__law_is_name)))
    (l__law_is_name : K.lookup f__law_is_name = some ⟨oc__law_is_name, od__law_is_name, .func (PySem.W.fnOf "_law_is_name" "_law_is_name" (defArgs s__law_is_name) (defBody s__law_is_name) (defScope s__law_is_name) .none kV__law_is_name dc__law_is_name pm__law_is_name an__law_is_name cd__law_is_name ct__law_is_name), sl__law_is_name⟩)
    (c__law_is_name : PySem.W.codeIn K cd__law_is_name "_law_is_name" = true)
    (k__law_is_name : PySem.W.keepIn K (.ref f__law_is_name) = true)
    (a__law_lowest : PySem.W.nsIn K mainGlobals "_law_lowest" = some (some (.ref f__law_lowest)))
    (l__law_lowest : K.lookup f__law_lowest = some ⟨oc__law_lowest, od__law_lowest, .func (PySem.W.fnOf "_law_lowest" "_law_lowest" (defArgs s__law_lowest) (defBody s__law_lowest) (defScope s__law_lowest) .none kV__law_lowest dc__law_lowest pm__law_lowest an__law_lowest cd__law_lowest ct__law_lowest), sl__law_lowest⟩)
    (c__law_lowest : PySem.W.codeIn K cd__law_lowest "_law_lowest" = true)
    (k__law_lowest : PySem.W.keepIn K (.ref f__law_lowest) = true)
    (a__law_drawn_number : PySem.W.nsIn K mainGlobals "_law_drawn_number" = some (some (.ref f__law_drawn_number)))
    (l__law_drawn_number : K.lookup f__law_drawn_number = some ⟨oc__law_drawn_number, od__law_drawn_number, .func (PySem.W.fnOf "_law_drawn_number" "_law_drawn_number" (defArgs s__law_drawn_number) (defBody s__law_drawn_number) (defScope s__law_drawn_number) .none kV__law_drawn_number dc__law_drawn_number pm__law_drawn_number an__law_drawn_number cd__law_drawn_number ct__law_drawn_number), sl__law_drawn_number⟩)
    (c__law_drawn_number : PySem.W.codeIn K cd__law_drawn_number "_law_drawn_number" = true)
    (k__law_drawn_number : PySem.W.keepIn K (.ref f__law_drawn_number) = true)
    (a__law_fraction : PySem.W.nsIn K mainGlobals "_law_fraction" = some (some (.ref f__law_fraction)))
    (l__law_fraction : K.lookup f__law_fraction = some ⟨oc__law_fraction, od__law_fraction, .func (PySem.W.fnOf "_law_fraction" "_law_fraction" (defArgs s__law_fraction) (defBody s__law_fraction) (defScope s__law_fraction) .none kV__law_fraction dc__law_fraction pm__law_fraction an__law_fraction cd__law_fraction ct__law_fraction), sl__law_fraction⟩)
    (c__law_fraction : PySem.W.codeIn K cd__law_fraction "_law_fraction" = true)
    (k__law_fraction : PySem.W.keepIn K (.ref f__law_fraction) = true)
    (a__law_no_number : PySem.W.nsIn K mainGlobals "_law_no_number" = some (some (.ref f__law_no_number)))
    (l__law_no_number : K.lookup f__law_no_number = some ⟨oc__law_no_number, od__law_no_number, .func (PySem.W.fnOf "_law_no_number" "_law_no_number" (defArgs s__law_no_number) (defBody s__law_no_number) (defScope s__law_no_number) .none kV__law_no_number dc__law_no_number pm__law_no_number an__law_no_number cd__law_no_number ct__law_no_number), sl__law_no_number⟩)
    (c__law_no_number : PySem.W.codeIn K cd__law_no_number "_law_no_number" = true)
    (k__law_no_number : PySem.W.keepIn K (.ref f__law_no_number) = true)
    (a__law_no_fraction : PySem.W.nsIn K mainGlobals "_law_no_fraction" = some (some (.ref f__law_no_fraction)))
    (l__law_no_fraction : K.lookup f__law_no_fraction = some ⟨oc__law_no_fraction, od__law_no_fraction, .func (PySem.W.fnOf "_law_no_fraction" "_law_no_fraction" (defArgs s__law_no_fraction) (defBody s__law_no_fraction) (defScope s__law_no_fraction) .none kV__law_no_fraction dc__law_no_fraction pm__law_no_fraction an__law_no_fraction cd__law_no_fraction ct__law_no_fraction), sl__law_no_fraction⟩)
    (c__law_no_fraction : PySem.W.codeIn K cd__law_no_fraction "_law_no_fraction" = true)
    (k__law_no_fraction : PySem.W.keepIn K (.ref f__law_no_fraction) = true)
    (a__law_tried : PySem.W.nsIn K mainGlobals "_law_tried" = some (some (.ref f__law_tried)))
    (l__law_tried : K.lookup f__law_tried = some ⟨oc__law_tried, od__law_tried, .func (PySem.W.fnOf "_law_tried" "_law_tried" (defArgs s__law_tried) (defBody s__law_tried) (defScope s__law_tried) .none kV__law_tried dc__law_tried pm__law_tried an__law_tried cd__law_tried ct__law_tried), sl__law_tried⟩)
    (c__law_tried : PySem.W.codeIn K cd__law_tried "_law_tried" = true)
    (k__law_tried : PySem.W.keepIn K (.ref f__law_tried) = true)
    (a__law_are_names_right : PySem.W.nsIn K mainGlobals "_law_are_names_right" = some (some (.ref f__law_are_names_right)))
    (l__law_are_names_right : K.lookup f__law_are_names_right = some ⟨oc__law_are_names_right, od__law_are_names_right, .func (PySem.W.fnOf "_law_are_names_right" "_law_are_names_right" (defArgs s__law_are_names_right) (defBody s__law_are_names_right) (defScope s__law_are_names_right) .none kV__law_are_names_right dc__law_are_names_right pm__law_are_names_right an__law_are_names_right cd__law_are_names_right ct__law_are_names_right), sl__law_are_names_right⟩)
    (c__law_are_names_right : PySem.W.codeIn K cd__law_are_names_right "_law_are_names_right" = true)
    (k__law_are_names_right : PySem.W.keepIn K (.ref f__law_are_names_right) = true)
    (a__law_are_sums_right : PySem.W.nsIn K mainGlobals "_law_are_sums_right" = some (some (.ref f__law_are_sums_right)))
    (l__law_are_sums_right : K.lookup f__law_are_sums_right = some ⟨oc__law_are_sums_right, od__law_are_sums_right, .func (PySem.W.fnOf "_law_are_sums_right" "_law_are_sums_right" (defArgs s__law_are_sums_right) (defBody s__law_are_sums_right) (defScope s__law_are_sums_right) .none kV__law_are_sums_right dc__law_are_sums_right pm__law_are_sums_right an__law_are_sums_right cd__law_are_sums_right ct__law_are_sums_right), sl__law_are_sums_right⟩)
    (c__law_are_sums_right : PySem.W.codeIn K cd__law_are_sums_right "_law_are_sums_right" = true)
    (k__law_are_sums_right : PySem.W.keepIn K (.ref f__law_are_sums_right) = true)
    (a_law : PySem.W.nsIn K mainGlobals "law" = some (some (.ref f_law)))
    (l_law : K.lookup f_law = some ⟨oc_law, od_law, .func (PySem.W.fnOf "law" "law" (defArgs s_law) (defBody s_law) (defScope s_law) .none kV_law dc_law pm_law an_law (.ref c4) ct_law), sl_law⟩)
    (c_law : PySem.W.codeIn K (.ref c4) "law" = true)
    (k_law : PySem.W.keepIn K (.ref f_law) = true)
    (z_int : PySem.W.nsIn K mainGlobals "int" = some none)
    (z_str : PySem.W.nsIn K mainGlobals "str" = some none)
    (z_bool : PySem.W.nsIn K mainGlobals "bool" = some none)
    (z_list : PySem.W.nsIn K mainGlobals "list" = some none)
    (z_tuple : PySem.W.nsIn K mainGlobals "tuple" = some none)
    (z_dict : PySem.W.nsIn K mainGlobals "dict" = some none)
    (z_isinstance : PySem.W.nsIn K mainGlobals "isinstance" = some none)
    (z_len : PySem.W.nsIn K mainGlobals "len" = some none)
    (z_abs : PySem.W.nsIn K mainGlobals "abs" = some none)
    (z_max : PySem.W.nsIn K mainGlobals "max" = some none)
    (z_all : PySem.W.nsIn K mainGlobals "all" = some none)
    (z_any : PySem.W.nsIn K mainGlobals "any" = some none)
    (z_range : PySem.W.nsIn K mainGlobals "range" = some none)
    (z_zip : PySem.W.nsIn K mainGlobals "zip" = some none)
    (z_super : PySem.W.nsIn K mainGlobals "super" = some none)
    (v_MOST : PySem.W.nsIn K mainGlobals "MOST" = some (some (.int 1000000000000 t_MOST)))
    (v_LETTERS : PySem.W.nsIn K mainGlobals "LETTERS" = some (some (.str "abcdefghijklmnopqrstuvwxyz" t_LETTERS)))
    (v_SIGNS : PySem.W.nsIn K mainGlobals "SIGNS" = some (some (.str "abcdefghijklmnopqrstuvwxyz0123456789" t_SIGNS)))
    (v_LONGEST_NAME : PySem.W.nsIn K mainGlobals "LONGEST_NAME" = some (some (.int 8 t_LONGEST_NAME)))
    (v_PAIR : PySem.W.nsIn K mainGlobals "PAIR" = some (some (.int 2 t_PAIR)))
    (aY : PySem.W.nsIn K mainGlobals "YardError" = some (some (.ref Y)))
    (lI : K.lookup fI = some ⟨ocI, odI, .func (PySem.W.ksFn "__init__" "YardError.__init__" yArgs yBody yScope .none .none docI pmI anI (.ref cda) ctI cc), oslI⟩)
    (cI : PySem.W.codeIn K (.ref cda) "YardError.__init__" = true)
    (lcd : K.lookup cda = some ⟨ccl, cdd, .fields vsI, ccs⟩)
    (v2 : vsI[2]? = some (.str fileI tfI))
    (fl : ((PySem.Challenge.pw_everyboxout_k01_fractions_and_names.main.file : Str) == fileI) = true)
    (lcc : K.lookup cc = some ⟨clC, cldC, .cell (some (.ref Y)), cslC⟩)
    (dY : PySem.W.hasDictIn K Y = true)
    (tY : PySem.W.typeIn K (.ref Y) = some (.type "type"))
    (tp : PySem.W.nsIn K cStatics "thirdparty.any" = some none)
    (tI : PySem.W.typeIn K (.ref fI) = some (.type "function"))
    (hn : PySem.W.specialIn K (.builtin "object.__class__") "__get__" = some (some (.builtin "getset_descriptor.__get__")))
    (ht : PySem.W.takesIn K (.builtin "object.__class__") = some true)
    (aBadMany : PySem.W.nsIn K mainGlobals "BadMany" = some (some (.ref C_BadMany)))
    (xBadMany : K.lookup C_BadMany = some (excClassObj nm_BadMany q_BadMany C_BadMany N_BadMany bs_BadMany (.ref Y :: ESX.exTail) true sn_BadMany sub_BadMany ab_BadMany col_BadMany dd_BadMany m0_BadMany m1_BadMany m2_BadMany m3_BadMany m5_BadMany "Exception.__new__"))
    (nBadMany : (C_BadMany == Y) = false)
    (saBadMany : PySem.W.findIn K (.ref C_BadMany) "__setattr__" = some (some (.builtin "object.__setattr__")))
    (ebBadMany : PySem.W.subIn K (.ref C_BadMany) (.type "BaseException") = some true)
    (eeBadMany : PySem.W.subIn K (.ref C_BadMany) (.type "Exception") = some true)
    (eyBadMany : PySem.W.mroIn K C_BadMany (.ref Y) = some true)
    (syBadMany : PySem.W.subIn K (.ref C_BadMany) (.ref Y) = some true)
    (tyBadMany : PySem.W.typeIn K (.ref C_BadMany) = some (.type "type"))
    (kcBadMany : PySem.W.keepIn K (.ref C_BadMany) = true)
    (icBadMany : PySem.W.findIn K (.ref C_BadMany) "__init__" = some (some (.ref fI)))
    (noBadMany : PySem.W.findIn K (.ref C_BadMany) "thing" = some none)
    (gaBadMany : PySem.W.findIn K (.ref C_BadMany) "__getattribute__" = some (some (.builtin "BaseException.__getattribute__")))
    (ggBadMany : PySem.W.findIn K (.ref C_BadMany) "__getattr__" = some none)
    (hdBadMany : PySem.W.hasDictIn K C_BadMany = true)
    (caBadMany : PySem.W.findIn K (.ref C_BadMany) "__class__" = some (some (.builtin "object.__class__")))
    (moBadMany : PySem.W.mroIn K C_BadMany (.type "object") = some true)
    (aBadEffect : PySem.W.nsIn K mainGlobals "BadEffect" = some (some (.ref C_BadEffect)))
    (xBadEffect : K.lookup C_BadEffect = some (excClassObj nm_BadEffect q_BadEffect C_BadEffect N_BadEffect bs_BadEffect (.ref Y :: ESX.exTail) true sn_BadEffect sub_BadEffect ab_BadEffect col_BadEffect dd_BadEffect m0_BadEffect m1_BadEffect m2_BadEffect m3_BadEffect m5_BadEffect "Exception.__new__"))
    (nBadEffect : (C_BadEffect == Y) = false)
    (saBadEffect : PySem.W.findIn K (.ref C_BadEffect) "__setattr__" = some (some (.builtin "object.__setattr__")))
    (ebBadEffect : PySem.W.subIn K (.ref C_BadEffect) (.type "BaseException") = some true)
    (eeBadEffect : PySem.W.subIn K (.ref C_BadEffect) (.type "Exception") = some true)
    (eyBadEffect : PySem.W.mroIn K C_BadEffect (.ref Y) = some true)
    (syBadEffect : PySem.W.subIn K (.ref C_BadEffect) (.ref Y) = some true)
    (tyBadEffect : PySem.W.typeIn K (.ref C_BadEffect) = some (.type "type"))
    (kcBadEffect : PySem.W.keepIn K (.ref C_BadEffect) = true)
    (icBadEffect : PySem.W.findIn K (.ref C_BadEffect) "__init__" = some (some (.ref fI)))
    (noBadEffect : PySem.W.findIn K (.ref C_BadEffect) "thing" = some none)
    (gaBadEffect : PySem.W.findIn K (.ref C_BadEffect) "__getattribute__" = some (some (.builtin "BaseException.__getattribute__")))
    (ggBadEffect : PySem.W.findIn K (.ref C_BadEffect) "__getattr__" = some none)
    (hdBadEffect : PySem.W.hasDictIn K C_BadEffect = true)
    (caBadEffect : PySem.W.findIn K (.ref C_BadEffect) "__class__" = some (some (.builtin "object.__class__")))
    (moBadEffect : PySem.W.mroIn K C_BadEffect (.type "object") = some true)
    (s_BadMany_BadMany : PySem.W.subIn K (.ref C_BadMany) (.ref C_BadMany) = some true)
    (s_BadMany_BadEffect : PySem.W.subIn K (.ref C_BadMany) (.ref C_BadEffect) = some false)
    (s_BadEffect_BadMany : PySem.W.subIn K (.ref C_BadEffect) (.ref C_BadMany) = some false)
    (s_BadEffect_BadEffect : PySem.W.subIn K (.ref C_BadEffect) (.ref C_BadEffect) = some true)
    (neq : (C_BadMany == C_BadEffect) = false)
    (neq2 : (C_BadEffect == C_BadMany) = false)
    (lc4 : K.lookup c4 = some ⟨e4, dd4, .fields vs4, sl4⟩)
    (v11 : vs4[11]? = some (.ref P4))
    (hd4 : PySem.W.codeHdIn K c4 P4 = true)
    (nP4 : K.lookup P4 = none)
    : LawAtS PySem.Challenge.rw_everyboxout_k01_fractions_and_names w K (L2.CX PySem.Challenge.rw_everyboxout_k01_fractions_and_names.prog w) 21 63 "script" mg fa h := by
  have e := hfa.symm.trans (PySem.W.mg_of X G a_law)
  cases e
  have F_is_whole := fun_mk (st := s_is_whole) l_is_whole c_is_whole k_is_whole
  have F_is_name := fun_mk (st := s_is_name) l_is_name c_is_name k_is_name
  have F_is_short := fun_mk (st := s_is_short) l_is_short c_is_short k_is_short
  have F_common := fun_mk (st := s_common) l_common c_common k_common
  have F_low_f := fun_mk (st := s_low_f) l_low_f c_low_f k_low_f
  have F_is_fraction := fun_mk (st := s_is_fraction) l_is_fraction c_is_fraction k_is_fraction
  have F_plus_f := fun_mk (st := s_plus_f) l_plus_f c_plus_f k_plus_f
  have F_times_f := fun_mk (st := s_times_f) l_times_f c_times_f k_times_f
  have F_compared_f := fun_mk (st := s_compared_f) l_compared_f c_compared_f k_compared_f
  have F_need_fractions := fun_mk (st := s_need_fractions) l_need_fractions c_need_fractions k_need_fractions
  have F_lowest := fun_mk (st := s_lowest) l_lowest c_lowest k_lowest
  have F_plus := fun_mk (st := s_plus) l_plus c_plus k_plus
  have F_times := fun_mk (st := s_times) l_times c_times k_times
  have F_compared := fun_mk (st := s_compared) l_compared c_compared k_compared
  have F__law_deck := fun_mk (st := s__law_deck) l__law_deck c__law_deck k__law_deck
  have F__law_draw := fun_mk (st := s__law_draw) l__law_draw c__law_draw k__law_draw
  have F__law_pick := fun_mk (st := s__law_pick) l__law_pick c__law_pick k__law_pick
  have F__law_same := fun_mk (st := s__law_same) l__law_same c__law_same k__law_same
  have F__law_is_name := fun_mk (st := s__law_is_name) l__law_is_name c__law_is_name k__law_is_name
  have F__law_lowest := fun_mk (st := s__law_lowest) l__law_lowest c__law_lowest k__law_lowest
  have F__law_drawn_number := fun_mk (st := s__law_drawn_number) l__law_drawn_number c__law_drawn_number k__law_drawn_number
  have F__law_fraction := fun_mk (st := s__law_fraction) l__law_fraction c__law_fraction k__law_fraction
  have F__law_no_number := fun_mk (st := s__law_no_number) l__law_no_number c__law_no_number k__law_no_number
  have F__law_no_fraction := fun_mk (st := s__law_no_fraction) l__law_no_fraction c__law_no_fraction k__law_no_fraction
  have F__law_tried := fun_mk (st := s__law_tried) l__law_tried c__law_tried k__law_tried
  have F__law_are_names_right := fun_mk (st := s__law_are_names_right) l__law_are_names_right c__law_are_names_right k__law_are_names_right
  have F__law_are_sums_right := fun_mk (st := s__law_are_sums_right) l__law_are_sums_right c__law_are_sums_right k__law_are_sums_right
  have t : Mg mg := ⟨PySem.W.mg_none_of X G z_int, PySem.W.mg_none_of X G z_str, PySem.W.mg_none_of X G z_bool, PySem.W.mg_none_of X G z_list, PySem.W.mg_none_of X G z_tuple, PySem.W.mg_none_of X G z_dict, PySem.W.mg_none_of X G z_isinstance, PySem.W.mg_none_of X G z_len, PySem.W.mg_none_of X G z_abs, PySem.W.mg_none_of X G z_max, PySem.W.mg_none_of X G z_all, PySem.W.mg_none_of X G z_any, PySem.W.mg_none_of X G z_range, PySem.W.mg_none_of X G z_zip, PySem.W.mg_none_of X G z_super, ⟨_, PySem.W.mg_of X G v_MOST⟩, ⟨_, PySem.W.mg_of X G v_LETTERS⟩, ⟨_, PySem.W.mg_of X G v_SIGNS⟩, ⟨_, PySem.W.mg_of X G v_LONGEST_NAME⟩, ⟨_, PySem.W.mg_of X G v_PAIR⟩⟩
  have y_BadMany : YC K C_BadMany Y fI := ⟨⟨_, _, _, _, _, _, _, _, _, _, _, _, _, _, _, xBadMany, .inr ⟨rfl, by simpa using nBadMany⟩⟩, saBadMany, ebBadMany, eeBadMany, eyBadMany, tyBadMany, kcBadMany, icBadMany, noBadMany⟩
  have r_BadMany : ErrC K Y C_BadMany := ⟨⟨gaBadMany, ggBadMany, ebBadMany, hdBadMany, caBadMany, hn, ht, moBadMany⟩, ⟨gaBadMany, ggBadMany, ebBadMany, hdBadMany⟩, noBadMany, kit_up syBadMany dY tY⟩
  have y_BadEffect : YC K C_BadEffect Y fI := ⟨⟨_, _, _, _, _, _, _, _, _, _, _, _, _, _, _, xBadEffect, .inr ⟨rfl, by simpa using nBadEffect⟩⟩, saBadEffect, ebBadEffect, eeBadEffect, eyBadEffect, tyBadEffect, kcBadEffect, icBadEffect, noBadEffect⟩
  have r_BadEffect : ErrC K Y C_BadEffect := ⟨⟨gaBadEffect, ggBadEffect, ebBadEffect, hdBadEffect, caBadEffect, hn, ht, moBadEffect⟩, ⟨gaBadEffect, ggBadEffect, ebBadEffect, hdBadEffect⟩, noBadEffect, kit_up syBadEffect dY tY⟩
  have yi : YI PySem.Challenge.rw_everyboxout_k01_fractions_and_names.prog K fI cc cda Y := ⟨⟨_, _, _, _, _, _, _, lI⟩, cI, ⟨_, _, _, _, _, _, lcd, v2, fl⟩, ⟨_, _, _, lcc⟩, (let ⟨cd, hc, _⟩ := PySem.W.any_some dY; ⟨cd, hc⟩), tp, by rfl, tI⟩
  have ap : Apart K (lawHs C_BadMany C_BadEffect) := by
    intro p hp q hq
    simp only [lawHs, List.mem_cons, List.not_mem_nil, or_false] at hp hq
    rcases hp with e | e <;> rcases hq with e' | e' <;> subst e <;> subst e'
    · exact exm_b ebBadMany hdBadMany tyBadMany s_BadMany_BadMany (by simp)
    · exact exm_b ebBadEffect hdBadEffect tyBadEffect s_BadMany_BadEffect neq
    · exact exm_b ebBadMany hdBadMany tyBadMany s_BadEffect_BadMany neq2
    · exact exm_b ebBadEffect hdBadEffect tyBadEffect s_BadEffect_BadEffect (by simp)
  have mM := PySem.W.mg_of X G aBadMany
  have mE := PySem.W.mg_of X G aBadEffect
  have mY := PySem.W.mg_of X G aY
  have ne : C_BadMany ≠ C_BadEffect := by simpa using neq
  refine ⟨PySem.W.fnOf "law" "law" (defArgs s_law) (defBody s_law) (defScope s_law) .none kV_law dc_law pm_law an_law (.ref c4) ct_law, [(c4, P4)], spD K [(P4, lamQ)] lawPD, ?_, ?_, ?_, fun s u => .of_eq rfl, ?_, ?_⟩
  · intro p hp
    rw [List.mem_singleton.mp hp]
    exact own c4 P4 _ _ e4 dd4 vs4 sl4 l_law rfl rfl lc4 v11
  · intro p hp
    rw [List.mem_singleton.mp hp]
    exact nP4
  · intro p hp
    rw [List.mem_singleton.mp hp]
    exact PySem.W.codeHd_of_K X hd4
  · intro H a ns hl _ hT hS
    refine law_start hl (fun p hp => ?_) hS
    rw [List.mem_singleton.mp hp]
    exact LamX.TabS.nil (hT (c4, P4) (List.mem_singleton.mpr rfl))
  · intro base _ _ TB
    have er : Errs ⟨PySem.Challenge.rw_everyboxout_k01_fractions_and_names.prog, w, K, mg, base, [(P4, lamQ)]⟩ C_BadMany C_BadEffect Y := ⟨r_BadMany, r_BadEffect, mM, mE, mY, ap, ne⟩
    have h_is_whole := ok_is_whole (G := ⟨PySem.Challenge.rw_everyboxout_k01_fractions_and_names.prog, w, K, mg, base, [(P4, lamQ)]⟩) t ⟨_, _, PySem.W.mg_of X G a_is_whole, F_is_whole⟩
    have h_is_name := ok_is_name (G := ⟨PySem.Challenge.rw_everyboxout_k01_fractions_and_names.prog, w, K, mg, base, [(P4, lamQ)]⟩) t ⟨_, _, PySem.W.mg_of X G a_is_name, F_is_name⟩
    have h_is_short := ok_is_short (G := ⟨PySem.Challenge.rw_everyboxout_k01_fractions_and_names.prog, w, K, mg, base, [(P4, lamQ)]⟩) t ⟨_, _, PySem.W.mg_of X G a_is_short, F_is_short⟩ h_is_whole
    have h_common := ok_common (G := ⟨PySem.Challenge.rw_everyboxout_k01_fractions_and_names.prog, w, K, mg, base, [(P4, lamQ)]⟩) t ⟨_, _, PySem.W.mg_of X G a_common, F_common⟩
    have h_low_f := ok_low_f (G := ⟨PySem.Challenge.rw_everyboxout_k01_fractions_and_names.prog, w, K, mg, base, [(P4, lamQ)]⟩) t ⟨_, _, PySem.W.mg_of X G a_low_f, F_low_f⟩ h_common
    have h_is_fraction := ok_is_fraction (G := ⟨PySem.Challenge.rw_everyboxout_k01_fractions_and_names.prog, w, K, mg, base, [(P4, lamQ)]⟩) t ⟨_, _, PySem.W.mg_of X G a_is_fraction, F_is_fraction⟩ h_common h_is_short
    have h_plus_f := ok_plus_f (G := ⟨PySem.Challenge.rw_everyboxout_k01_fractions_and_names.prog, w, K, mg, base, [(P4, lamQ)]⟩) t ⟨_, _, PySem.W.mg_of X G a_plus_f, F_plus_f⟩ h_low_f
    have h_times_f := ok_times_f (G := ⟨PySem.Challenge.rw_everyboxout_k01_fractions_and_names.prog, w, K, mg, base, [(P4, lamQ)]⟩) t ⟨_, _, PySem.W.mg_of X G a_times_f, F_times_f⟩ h_low_f
    have h_compared_f := ok_compared_f (G := ⟨PySem.Challenge.rw_everyboxout_k01_fractions_and_names.prog, w, K, mg, base, [(P4, lamQ)]⟩) t ⟨_, _, PySem.W.mg_of X G a_compared_f, F_compared_f⟩
    have h_need_fractions := ok_need_fractions (G := ⟨PySem.Challenge.rw_everyboxout_k01_fractions_and_names.prog, w, K, mg, base, [(P4, lamQ)]⟩) t y_BadEffect mE yi ⟨_, _, PySem.W.mg_of X G a_need_fractions, F_need_fractions⟩ h_is_fraction
    have h_lowest := ok_lowest (G := ⟨PySem.Challenge.rw_everyboxout_k01_fractions_and_names.prog, w, K, mg, base, [(P4, lamQ)]⟩) t y_BadMany mM yi ⟨_, _, PySem.W.mg_of X G a_lowest, F_lowest⟩ h_low_f h_is_short
    have h_plus := ok_plus (G := ⟨PySem.Challenge.rw_everyboxout_k01_fractions_and_names.prog, w, K, mg, base, [(P4, lamQ)]⟩) t ⟨_, _, PySem.W.mg_of X G a_plus, F_plus⟩ h_need_fractions h_plus_f
    have h_times := ok_times (G := ⟨PySem.Challenge.rw_everyboxout_k01_fractions_and_names.prog, w, K, mg, base, [(P4, lamQ)]⟩) t ⟨_, _, PySem.W.mg_of X G a_times, F_times⟩ h_need_fractions h_times_f
    have h_compared := ok_compared (G := ⟨PySem.Challenge.rw_everyboxout_k01_fractions_and_names.prog, w, K, mg, base, [(P4, lamQ)]⟩) t ⟨_, _, PySem.W.mg_of X G a_compared, F_compared⟩ h_need_fractions h_compared_f
    have h__law_deck := ok__law_deck (G := ⟨PySem.Challenge.rw_everyboxout_k01_fractions_and_names.prog, w, K, mg, base, [(P4, lamQ)]⟩) t ⟨_, _, PySem.W.mg_of X G a__law_deck, F__law_deck⟩
    have h__law_draw := ok__law_draw (G := ⟨PySem.Challenge.rw_everyboxout_k01_fractions_and_names.prog, w, K, mg, base, [(P4, lamQ)]⟩) t ⟨_, _, PySem.W.mg_of X G a__law_draw, F__law_draw⟩
    have h__law_pick := ok__law_pick (G := ⟨PySem.Challenge.rw_everyboxout_k01_fractions_and_names.prog, w, K, mg, base, [(P4, lamQ)]⟩) t ⟨_, _, PySem.W.mg_of X G a__law_pick, F__law_pick⟩ h__law_draw
    have h__law_same := ok__law_same (G := ⟨PySem.Challenge.rw_everyboxout_k01_fractions_and_names.prog, w, K, mg, base, [(P4, lamQ)]⟩) t ⟨_, _, PySem.W.mg_of X G a__law_same, F__law_same⟩
    have h__law_is_name := ok__law_is_name (G := ⟨PySem.Challenge.rw_everyboxout_k01_fractions_and_names.prog, w, K, mg, base, [(P4, lamQ)]⟩) t ⟨_, _, PySem.W.mg_of X G a__law_is_name, F__law_is_name⟩
    have h__law_lowest := ok__law_lowest (G := ⟨PySem.Challenge.rw_everyboxout_k01_fractions_and_names.prog, w, K, mg, base, [(P4, lamQ)]⟩) t ⟨_, _, PySem.W.mg_of X G a__law_lowest, F__law_lowest⟩
    have h__law_drawn_number := ok__law_drawn_number (G := ⟨PySem.Challenge.rw_everyboxout_k01_fractions_and_names.prog, w, K, mg, base, [(P4, lamQ)]⟩) t ⟨_, _, PySem.W.mg_of X G a__law_drawn_number, F__law_drawn_number⟩ h__law_draw h__law_pick
    have h__law_fraction := ok__law_fraction (G := ⟨PySem.Challenge.rw_everyboxout_k01_fractions_and_names.prog, w, K, mg, base, [(P4, lamQ)]⟩) t ⟨_, _, PySem.W.mg_of X G a__law_fraction, F__law_fraction⟩ h__law_lowest h__law_drawn_number
    have h__law_no_number := ok__law_no_number (G := ⟨PySem.Challenge.rw_everyboxout_k01_fractions_and_names.prog, w, K, mg, base, [(P4, lamQ)]⟩) t ⟨_, _, PySem.W.mg_of X G a__law_no_number, F__law_no_number⟩ h__law_pick
    have h__law_no_fraction := ok__law_no_fraction (G := ⟨PySem.Challenge.rw_everyboxout_k01_fractions_and_names.prog, w, K, mg, base, [(P4, lamQ)]⟩) t ⟨_, _, PySem.W.mg_of X G a__law_no_fraction, F__law_no_fraction⟩ h__law_fraction h__law_pick
    have h__law_are_names_right := ok__law_are_names_right (G := ⟨PySem.Challenge.rw_everyboxout_k01_fractions_and_names.prog, w, K, mg, base, [(P4, lamQ)]⟩) t ⟨_, _, PySem.W.mg_of X G a__law_are_names_right, F__law_are_names_right⟩ h__law_same h__law_draw h__law_pick h_is_name h__law_is_name
    have h__law_are_sums_right := ok__law_are_sums_right (G := ⟨PySem.Challenge.rw_everyboxout_k01_fractions_and_names.prog, w, K, mg, base, [(P4, lamQ)]⟩) t ⟨_, _, PySem.W.mg_of X G a__law_are_sums_right, F__law_are_sums_right⟩ h__law_same h__law_lowest h_plus h_times h_compared
    exact ok_law (G := ⟨PySem.Challenge.rw_everyboxout_k01_fractions_and_names.prog, w, K, mg, base, [(P4, lamQ)]⟩) t l_law c_law ⟨_, _, PySem.W.mg_of X G a__law_tried, F__law_tried⟩ (TB (c4, P4) (List.mem_singleton.mpr rfl)) rfl er h__law_deck h__law_no_number h__law_fraction h__law_no_fraction h__law_same h__law_are_names_right h__law_drawn_number h__law_draw h__law_lowest h__law_are_sums_right h_lowest h_plus h_times h_compared
end K01


open PySem PySem.W PyProof.Rows in
set_option maxRecDepth 100000 in
set_option maxHeartbeats 0 in
theorem PySem.Challenge.cw_everyboxout_k01_fractions_and_names_holds : PySem.Challenge.rw_everyboxout_k01_fractions_and_names.Holds := by
  w_on; o_law; k_head; (case hw => w_witness2)
  k_fill
  refine LamX.walk_ofOwn (l := PySem.Challenge.rw_everyboxout_k01_fractions_and_names) (n := 63) (k := 21) (x := "script") (CX := fun w => L2.CX PySem.Challenge.rw_everyboxout_k01_fractions_and_names.prog w) rfl (by decide) rfl ⟨rfl, by decide, by decide⟩ (by first | rfl | decide +kernel) (fun w h Y => PySem.W.km_in_of Y) ?F ?C
  case C =>
    rintro w H s e s' ⟨a, B, H', cls, d, z⟩
    exact z.2.2.2.2.2.2.2
  case F =>
    intro w mg fa h Y KX G hmg own
    refine' K01.all_mk KX G hmg own ?a_is_whole ?l_is_whole ?c_is_whole ?k_is_whole ?a_is_name ?l_is_name ?c_is_name ?k_is_name ?a_is_short ?l_is_short ?c_is_short ?k_is_short ?a_common ?l_common ?c_common ?k_common ?a_low_f ?l_low_f ?c_low_f ?k_low_f ?a_is_fraction ?l_is_fraction ?c_is_fraction ?k_is_fraction ?a_plus_f ?l_plus_f ?c_plus_f ?k_plus_f ?a_times_f ?l_times_f ?c_times_f ?k_times_f ?a_compared_f ?l_compared_f ?c_compared_f ?k_compared_f ?a_need_fractions ?l_need_fractions ?c_need_fractions ?k_need_fractions ?a_lowest ?l_lowest ?c_lowest ?k_lowest ?a_plus ?l_plus ?c_plus ?k_plus ?a_times ?l_times ?c_times ?k_times ?a_compared ?l_compared ?c_compared ?k_compared ?a__law_deck ?l__law_deck ?c__law_deck ?k__law_deck ?a__law_draw ?l__law_draw ?c__law_draw ?k__law_draw ?a__law_pick ?l__law_pick ?c__law_pick ?k__law_pick ?a__law_same ?l__law_same ?c__law_same ?k__law_same ?a__law_is_name ?l__law_is_name ?c__law_is_name ?k__law_is_name ?a__law_lowest ?l__law_lowest ?c__law_lowest ?k__law_lowest ?a__law_drawn_number ?l__law_drawn_number ?c__law_drawn_number ?k__law_drawn_number ?a__law_fraction ?l__law_fraction ?c__law_fraction ?k__law_fraction ?a__law_no_number ?l__law_no_number ?c__law_no_number ?k__law_no_number ?a__law_no_fraction ?l__law_no_fraction ?c__law_no_fraction ?k__law_no_fraction ?a__law_tried ?l__law_tried ?c__law_tried ?k__law_tried ?a__law_are_names_right ?l__law_are_names_right ?c__law_are_names_right ?k__law_are_names_right ?a__law_are_sums_right ?l__law_are_sums_right ?c__law_are_sums_right ?k__law_are_sums_right ?a_law ?l_law ?c_law ?k_law ?z_int ?z_str ?z_bool ?z_list ?z_tuple ?z_dict ?z_isinstance ?z_len ?z_abs ?z_max ?z_all ?z_any ?z_range ?z_zip ?z_super ?v_MOST ?v_LETTERS ?v_SIGNS ?v_LONGEST_NAME ?v_PAIR ?aY ?lI ?cI ?lcd ?v2 ?fl ?lcc ?dY ?tY ?tp ?tI ?hn ?ht ?aBadMany ?xBadMany ?nBadMany ?saBadMany ?ebBadMany ?eeBadMany ?eyBadMany ?syBadMany ?tyBadMany ?kcBadMany ?icBadMany ?noBadMany ?gaBadMany ?ggBadMany ?hdBadMany ?caBadMany ?moBadMany ?aBadEffect ?xBadEffect ?nBadEffect ?saBadEffect ?ebBadEffect ?eeBadEffect ?eyBadEffect ?syBadEffect ?tyBadEffect ?kcBadEffect ?icBadEffect ?noBadEffect ?gaBadEffect ?ggBadEffect ?hdBadEffect ?caBadEffect ?moBadEffect ?s_BadMany_BadMany ?s_BadMany_BadEffect ?s_BadEffect_BadMany ?s_BadEffect_BadEffect ?neq ?neq2 ?lc4 ?v11 ?hd4 ?nP4
    (case a_is_whole => first | k_is | rfl | decide +kernel)
    (case a_is_name => first | k_is | rfl | decide +kernel)
    (case a_is_short => first | k_is | rfl | decide +kernel)
    (case a_common => first | k_is | rfl | decide +kernel)
    (case a_low_f => first | k_is | rfl | decide +kernel)
    (case a_is_fraction => first | k_is | rfl | decide +kernel)
    (case a_plus_f => first | k_is | rfl | decide +kernel)
    (case a_times_f => first | k_is | rfl | decide +kernel)
    (case a_compared_f => first | k_is | rfl | decide +kernel)
    (case a_need_fractions => first | k_is | rfl | decide +kernel)
    (case a_lowest => first | k_is | rfl | decide +kernel)
    (case a_plus => first | k_is | rfl | decide +kernel)
    (case a_times => first | k_is | rfl | decide +kernel)
    (case a_compared => first | k_is | rfl | decide +kernel)
    (case a__law_deck => first | k_is | rfl | decide +kernel)
    (case a__law_draw => first | k_is | rfl | decide +kernel)
    (case a__law_pick => first | k_is | rfl | decide +kernel)
    (case a__law_same => first | k_is | rfl | decide +kernel)
    (case a__law_is_name => first | k_is | rfl | decide +kernel)
    (case a__law_lowest => first | k_is | rfl | decide +kernel)
    (case a__law_drawn_number => first | k_is | rfl | decide +kernel)
    (case a__law_fraction => first | k_is | rfl | decide +kernel)
    (case a__law_no_number => first | k_is | rfl | decide +kernel)
    (case a__law_no_fraction => first | k_is | rfl | decide +kernel)
    (case a__law_tried => first | k_is | rfl | decide +kernel)
    (case a__law_are_names_right => first | k_is | rfl | decide +kernel)
    (case a__law_are_sums_right => first | k_is | rfl | decide +kernel)
    (case a_law => first | k_is | rfl | decide +kernel)
    (case aY => first | k_is | rfl | decide +kernel)
    (case aBadMany => first | k_is | rfl | decide +kernel)
    (case aBadEffect => first | k_is | rfl | decide +kernel)
    (case icBadMany => first | k_is | rfl | decide +kernel)
    (case icBadEffect => first | k_is | rfl | decide +kernel)
    (case l_is_whole => first | k_is | rfl | decide +kernel)
    (case c_is_whole => first | k_is | rfl | decide +kernel)
    (case k_is_whole => first | k_is | rfl | decide +kernel)
    (case l_is_name => first | k_is | rfl | decide +kernel)
    (case c_is_name => first | k_is | rfl | decide +kernel)
    (case k_is_name => first | k_is | rfl | decide +kernel)
    (case l_is_short => first | k_is | rfl | decide +kernel)
    (case c_is_short => first | k_is | rfl | decide +kernel)
    (case k_is_short => first | k_is | rfl | decide +kernel)
    (case l_common => first | k_is | rfl | decide +kernel)
    (case c_common => first | k_is | rfl | decide +kernel)
    (case k_common => first | k_is | rfl | decide +kernel)
    (case l_low_f => first | k_is | rfl | decide +kernel)
    (case c_low_f => first | k_is | rfl | decide +kernel)
    (case k_low_f => first | k_is | rfl | decide +kernel)
    (case l_is_fraction => first | k_is | rfl | decide +kernel)
    (case c_is_fraction => first | k_is | rfl | decide +kernel)
    (case k_is_fraction => first | k_is | rfl | decide +kernel)
    (case l_plus_f => first | k_is | rfl | decide +kernel)
    (case c_plus_f => first | k_is | rfl | decide +kernel)
    (case k_plus_f => first | k_is | rfl | decide +kernel)
    (case l_times_f => first | k_is | rfl | decide +kernel)
    (case c_times_f => first | k_is | rfl | decide +kernel)
    (case k_times_f => first | k_is | rfl | decide +kernel)
    (case l_compared_f => first | k_is | rfl | decide +kernel)
    (case c_compared_f => first | k_is | rfl | decide +kernel)
    (case k_compared_f => first | k_is | rfl | decide +kernel)
    (case l_need_fractions => first | k_is | rfl | decide +kernel)
    (case c_need_fractions => first | k_is | rfl | decide +kernel)
    (case k_need_fractions => first | k_is | rfl | decide +kernel)
    (case l_lowest => first | k_is | rfl | decide +kernel)
    (case c_lowest => first | k_is | rfl | decide +kernel)
    (case k_lowest => first | k_is | rfl | decide +kernel)
    (case l_plus => first | k_is | rfl | decide +kernel)
    (case c_plus => first | k_is | rfl | decide +kernel)
    (case k_plus => first | k_is | rfl | decide +kernel)
    (case l_times => first | k_is | rfl | decide +kernel)
    (case c_times => first | k_is | rfl | decide +kernel)
    (case k_times => first | k_is | rfl | decide +kernel)
    (case l_compared => first | k_is | rfl | decide +kernel)
    (case c_compared => first | k_is | rfl | decide +kernel)
    (case k_compared => first | k_is | rfl | decide +kernel)
    (case l__law_deck => first | k_is | rfl | decide +kernel)
    (case c__law_deck => first | k_is | rfl | decide +kernel)
    (case k__law_deck => first | k_is | rfl | decide +kernel)
    (case l__law_draw => first | k_is | rfl | decide +kernel)
    (case c__law_draw => first | k_is | rfl | decide +kernel)
    (case k__law_draw => first | k_is | rfl | decide +kernel)
    (case l__law_pick => first | k_is | rfl | decide +kernel)
    (case c__law_pick => first | k_is | rfl | decide +kernel)
    (case k__law_pick => first | k_is | rfl | decide +kernel)
    (case l__law_same => first | k_is | rfl | decide +kernel)
    (case c__law_same => first | k_is | rfl | decide +kernel)
    (case k__law_same => first | k_is | rfl | decide +kernel)
    (case l__law_is_name => first | k_is | rfl | decide +kernel)
    (case c__law_is_name => first | k_is | rfl | decide +kernel)
    (case k__law_is_name => first | k_is | rfl | decide +kernel)
    (case l__law_lowest => first | k_is | rfl | decide +kernel)
    (case c__law_lowest => first | k_is | rfl | decide +kernel)
    (case k__law_lowest => first | k_is | rfl | decide +kernel)
    (case l__law_drawn_number => first | k_is | rfl | decide +kernel)
    (case c__law_drawn_number => first | k_is | rfl | decide +kernel)
    (case k__law_drawn_number => first | k_is | rfl | decide +kernel)
    (case l__law_fraction => first | k_is | rfl | decide +kernel)
    (case c__law_fraction => first | k_is | rfl | decide +kernel)
    (case k__law_fraction => first | k_is | rfl | decide +kernel)
    (case l__law_no_number => first | k_is | rfl | decide +kernel)
    (case c__law_no_number => first | k_is | rfl | decide +kernel)
    (case k__law_no_number => first | k_is | rfl | decide +kernel)
    (case l__law_no_fraction => first | k_is | rfl | decide +kernel)
    (case c__law_no_fraction => first | k_is | rfl | decide +kernel)
    (case k__law_no_fraction => first | k_is | rfl | decide +kernel)
    (case l__law_tried => first | k_is | rfl | decide +kernel)
    (case c__law_tried => first | k_is | rfl | decide +kernel)
    (case k__law_tried => first | k_is | rfl | decide +kernel)
    (case l__law_are_names_right => first | k_is | rfl | decide +kernel)
    (case c__law_are_names_right => first | k_is | rfl | decide +kernel)
    (case k__law_are_names_right => first | k_is | rfl | decide +kernel)
    (case l__law_are_sums_right => first | k_is | rfl | decide +kernel)
    (case c__law_are_sums_right => first | k_is | rfl | decide +kernel)
    (case k__law_are_sums_right => first | k_is | rfl | decide +kernel)
    (case l_law => first | k_is | rfl | decide +kernel)
    (case c_law => first | k_is | rfl | decide +kernel)
    (case k_law => first | k_is | rfl | decide +kernel)
    (case z_int => first | k_is | rfl | decide +kernel)
    (case z_str => first | k_is | rfl | decide +kernel)
    (case z_bool => first | k_is | rfl | decide +kernel)
    (case z_list => first | k_is | rfl | decide +kernel)
    (case z_tuple => first | k_is | rfl | decide +kernel)
    (case z_dict => first | k_is | rfl | decide +kernel)
    (case z_isinstance => first | k_is | rfl | decide +kernel)
    (case z_len => first | k_is | rfl | decide +kernel)
    (case z_abs => first | k_is | rfl | decide +kernel)
    (case z_max => first | k_is | rfl | decide +kernel)
    (case z_all => first | k_is | rfl | decide +kernel)
    (case z_any => first | k_is | rfl | decide +kernel)
    (case z_range => first | k_is | rfl | decide +kernel)
    (case z_zip => first | k_is | rfl | decide +kernel)
    (case z_super => first | k_is | rfl | decide +kernel)
    (case v_MOST => first | k_is | rfl | decide +kernel)
    (case v_LETTERS => first | k_is | rfl | decide +kernel)
    (case v_SIGNS => first | k_is | rfl | decide +kernel)
    (case v_LONGEST_NAME => first | k_is | rfl | decide +kernel)
    (case v_PAIR => first | k_is | rfl | decide +kernel)
    (case lI => first | k_is | rfl | decide +kernel)
    (case cI => first | k_is | rfl | decide +kernel)
    (case lcd => first | k_is | rfl | decide +kernel)
    (case v2 => first | k_is | rfl | decide +kernel)
    (case fl => first | k_is | rfl | decide +kernel)
    (case lcc => first | k_is | rfl | decide +kernel)
    (case dY => first | k_is | rfl | decide +kernel)
    (case tY => first | k_is | rfl | decide +kernel)
    (case tp => first | k_is | rfl | decide +kernel)
    (case tI => first | k_is | rfl | decide +kernel)
    (case hn => first | k_is | rfl | decide +kernel)
    (case ht => first | k_is | rfl | decide +kernel)
    (case xBadMany => first | k_is | rfl | decide +kernel)
    (case nBadMany => first | k_is | rfl | decide +kernel)
    (case saBadMany => first | k_is | rfl | decide +kernel)
    (case ebBadMany => first | k_is | rfl | decide +kernel)
    (case eeBadMany => first | k_is | rfl | decide +kernel)
    (case eyBadMany => first | k_is | rfl | decide +kernel)
    (case syBadMany => first | k_is | rfl | decide +kernel)
    (case tyBadMany => first | k_is | rfl | decide +kernel)
    (case kcBadMany => first | k_is | rfl | decide +kernel)
    (case noBadMany => first | k_is | rfl | decide +kernel)
    (case gaBadMany => first | k_is | rfl | decide +kernel)
    (case ggBadMany => first | k_is | rfl | decide +kernel)
    (case hdBadMany => first | k_is | rfl | decide +kernel)
    (case caBadMany => first | k_is | rfl | decide +kernel)
    (case moBadMany => first | k_is | rfl | decide +kernel)
    (case xBadEffect => first | k_is | rfl | decide +kernel)
    (case nBadEffect => first | k_is | rfl | decide +kernel)
    (case saBadEffect => first | k_is | rfl | decide +kernel)
    (case ebBadEffect => first | k_is | rfl | decide +kernel)
    (case eeBadEffect => first | k_is | rfl | decide +kernel)
    (case eyBadEffect => first | k_is | rfl | decide +kernel)
    (case syBadEffect => first | k_is | rfl | decide +kernel)
    (case tyBadEffect => first | k_is | rfl | decide +kernel)
    (case kcBadEffect => first | k_is | rfl | decide +kernel)
    (case noBadEffect => first | k_is | rfl | decide +kernel)
    (case gaBadEffect => first | k_is | rfl | decide +kernel)
    (case ggBadEffect => first | k_is | rfl | decide +kernel)
    (case hdBadEffect => first | k_is | rfl | decide +kernel)
    (case caBadEffect => first | k_is | rfl | decide +kernel)
    (case moBadEffect => first | k_is | rfl | decide +kernel)
    (case s_BadMany_BadMany => first | k_is | rfl | decide +kernel)
    (case s_BadMany_BadEffect => first | k_is | rfl | decide +kernel)
    (case s_BadEffect_BadMany => first | k_is | rfl | decide +kernel)
    (case s_BadEffect_BadEffect => first | k_is | rfl | decide +kernel)
    (case neq => first | k_is | rfl | decide +kernel)
    (case neq2 => first | k_is | rfl | decide +kernel)
    (case lc4 => first | k_is | rfl | decide +kernel)
    (case v11 => first | k_is | rfl | decide +kernel)
    (case hd4 => first | k_is | rfl | decide +kernel)
    (case nP4 => first | k_is | rfl | decide +kernel)
